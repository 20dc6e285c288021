import PyProof.Rows.All
import Wide.All
import OpenK.AllK
import Wide.FinOn
import HandS.ForMost
import HandS.NestedK
import HandS.Star
import HandS.TupAny
import HandS.IsInst
import HandS.Wide
import HandS.WideBits
import HandS.Flow
import HandS.Style
import KE.DataEq
import KE.KIndexOf
import HandS.Walk
import HandS.Zip
import HandS.Sort
import KE.GoesNew
import KE.GoesEnum
import KE.GoesRev
import KE.SortData
import KE.DataMinMax
import KE.DataFind
import KE.KRevSl
import HandS.ExcOwn
import HandS.ExcValue
import HandS.CallLocal
import HandS.HeadHook3
import HandS.MakeKwOnly
import HandS.HeadWalk
import HandS.HeadHook4
import PyProof.ReprRoads
import HandS.Conv
import PyProof.ReprLen
import HandS.Head0
import HandS.Head1
import HandS.Head2
import HandS.HeadEnd
import HandS.HeadHook1
import HandS.HeadHook2
import PySem.Challenge.RW_frontshelf_k73_whole_askings_left_out
set_option Elab.async false
set_option linter.all false
set_option maxRecDepth 100000
set_option maxHeartbeats 0
set_option exponentiation.threshold 1000
/-! VL: values as data, a store of mutable lists, meanings of expressions as functions. -/
namespace VL
open PySem PySem.Spec PyProof.Rows L2
/-- a lambda that was made: where it stands, its code object, its name, what it captured -/
structure LK where
  a : Addr
  c : Addr
  q : Str
  ws : List V
/-- a value as data: lst: a list that nobody changes; fro: one known to the object; cel: the mutable list number n of the store; glo: what the module's name stands for -/
inductive D where
  | non | bl (b : Bool) | int (i : Int) | str (x : Str) | tup (xs : List D) | lst (xs : List D) | fro (xs : List D) | cel (n : Nat) | glo (x : Str) | wtup (xs : List D) | ty (n : String) | lam (L : LK) (ds : List D)
abbrev Cel := List D
abbrev Sto := List (Option Cel)
abbrev DEnv := List (Option D)
inductive Res (α : Type) where
  | ok (a : α) (S : Sto)
  | bad
def M (α : Type) := Sto → Res α
@[reducible] def M.pure {α : Type} (a : α) : M α := fun S => .ok a S
@[reducible] def M.bind {α β : Type} (x : M α) (f : α → M β) : M β := fun S => match x S with
  | .ok a S1 => f a S1
  | .bad => .bad
@[reducible] def M.bad {α : Type} : M α := fun _ => .bad
instance : Monad M where
  pure := M.pure
  bind := M.bind
/-- the abstract heap with the store laid into it: cell i lies at ρ i; X: lists that are being made -/
structure AS where
  S : Sto
  ρ : List Addr
  X : List Addr
  H : Hp
def AS.live (A : AS) (a : Addr) : Prop := ∃ (i : Nat) (c : List D), A.S[i]? = some (some c) ∧ A.ρ[i]? = some a
/-- a tuple that has no dict of its own: its methods can be called -/
def TupAt (K : PySem.W.Frag) (H : Hp) (a : Addr) (vs : List V) : Prop :=
  (∃ o : Obj, H a = some (.frz o (.tup vs)) ∧ o.dict = none) ∨
    ∃ (o : Obj) (its : Array Value) (n : Nat), K.lookup a = some o ∧ o.cls = .type "tuple" ∧ o.dict = none ∧ o.data = .seq its n ∧ its.size ≤ sizeLine ∧ Vals vs its.toList
theorem TupAt.sq {K : PySem.W.Frag} {H : Hp} {a : Addr} {vs : List V} (h : TupAt K H a vs) : SqT K H a vs := by
  rcases h with ⟨o, h, _⟩ | ⟨o, its, n, h1, h2, _, h3, h4, h5⟩
  · exact .inl (.inr ⟨o, h⟩)
  · exact .inr ⟨o, its, n, h1, h2, h3, h4, h5⟩
section
variable (K : PySem.W.Frag) (mg : Str → Option Value)
mutual
def Rep (A : AS) : D → V → Prop
  | .non, v => v = .non
  | .bl b, v => v = .bl b
  | .int i, v => v = .int i
  | .str x, v => v = .str x
  | .tup ds, v => ∃ a vs, v = .ref a ∧ TupAt K A.H a vs ∧ Reps A ds vs
  | .wtup ds, v => ∃ a vs, v = .ref a ∧ SqT K A.H a vs ∧ Reps A ds vs
  | .lst ds, v => ∃ a vs, v = .ref a ∧ A.H a = some (.lst vs) ∧ ¬ A.live a ∧ a ∉ A.X ∧ Reps A ds vs
  | .fro ds, v => ∃ a vs, v = .ref a ∧ ((∃ o, A.H a = some (.frz o (.lst vs))) ∨ ∃ (o : Obj) (its : Array Value) (n : Nat), K.lookup a = some o ∧ o.cls = .type "list" ∧ o.dict = none ∧ o.data = .seq its n ∧ its.size ≤ sizeLine ∧ Vals vs its.toList) ∧ Reps A ds vs
  | .cel n, v => ∃ a, v = .ref a ∧ A.ρ[n]? = some a
  | .glo x, v => ∃ a, v = .ref a ∧ mg x = some (.ref a)
  | .ty n, v => v = .ty n
  | .lam L ds, v => v = .ref L.a ∧ A.H L.c = some (LamX.CodeO L.c L.q) ∧ Reps A ds L.ws
def Reps (A : AS) : List D → List V → Prop
  | [], vs => vs = []
  | d :: ds, vs => ∃ v r, vs = v :: r ∧ Rep A d v ∧ Reps A ds r
end
/-- an object that is no table -/
def Seen1 (H : Hp) (a : Addr) : Prop := ∃ o, H a = some o ∧ ∀ ps, o ≠ .tbl ps
theorem seen_of {H : Hp} {a : Addr} {o : HO} (h : H a = some o) (n : ∀ ps, o ≠ .tbl ps) : Seen1 H a := ⟨o, h, n⟩
theorem seen_lst {H : Hp} {a : Addr} {vs : List V} (h : H a = some (.lst vs)) : Seen1 H a := ⟨_, h, fun _ z => nomatch z⟩
theorem Seen1.not {H : Hp} {a : Addr} (h : Seen1 H a) (e : H a = none) : False := by
  obtain ⟨o, h, _⟩ := h
  rw [e] at h
  cases h
theorem seen_upd {H : Hp} {a p : Addr} {o : HO} (h : Seen1 H a) (hp : H p = none) : Seen1 (upd H p o) a := by
  obtain ⟨u, h, n⟩ := h
  exact ⟨u, by rw [upd_ne (ne_of_none h hp)]; exact h, n⟩
theorem seen_put {H : Hp} {a p : Addr} {ws : List V} (h : Seen1 H a) : Seen1 (upd H p (.lst ws)) a := by
  by_cases z : a = p
  · rw [z]; exact seen_lst upd_same
  · obtain ⟨u, h, n⟩ := h
    exact ⟨u, by rw [upd_ne z]; exact h, n⟩
structure Ext (A A' : AS) : Prop where
  pre : ∀ (i : Nat) (a : Addr), A.ρ[i]? = some a → A'.ρ[i]? = some a
  sup : ∀ a ∈ A.X, a ∈ A'.X
  hid : ∀ a, Seen1 A.H a → a ∈ A'.X → a ∈ A.X
  keep : ∀ a o, A.H a = some o → ¬ A.live a → (∀ ps, o ≠ .tbl ps) → A'.H a = some o
  old : ∀ a, Seen1 A.H a → A'.live a → A.live a
  some : ∀ a, Seen1 A.H a → Seen1 A'.H a
/-- what carries values over: the lists that are being made may have changed -/
structure Tr (A A' : AS) : Prop where
  pre : ∀ (i : Nat) (a : Addr), A.ρ[i]? = some a → A'.ρ[i]? = some a
  hid : ∀ a, Seen1 A.H a → a ∈ A'.X → a ∈ A.X
  keep : ∀ a o, A.H a = some o → ¬ A.live a → a ∉ A.X → (∀ ps, o ≠ .tbl ps) → A'.H a = some o
  old : ∀ a, Seen1 A.H a → a ∉ A.X → A'.live a → A.live a
variable (T : List NdefX.NTab)
structure Ok (A : AS) : Prop where
  len : A.ρ.length = A.S.length
  cell : ∀ (i : Nat) (a : Addr) (c : List D), A.S[i]? = some (some c) → A.ρ[i]? = some a → ∃ vs, A.H a = some (.lst vs) ∧ Reps K mg A c vs
  inj : ∀ (i j : Nat) (a : Addr) (c d : List D), A.S[i]? = some (some c) → A.S[j]? = some (some d) → A.ρ[i]? = some a → A.ρ[j]? = some a → i = j
  hid : ∀ a ∈ A.X, (∃ vs, A.H a = some (.lst vs)) ∧ ¬ A.live a
  tab : NdefX.TabsN T A.H
theorem tabs_mono {T : List NdefX.NTab} {H H' : Hp} (h : NdefX.TabsN T H) (k : ∀ b o, H b = some o → (∀ vs, o ≠ .lst vs) → H' b = some o) : NdefX.TabsN T H' := fun p hp => by
  obtain ⟨ps, h1, h2, h3⟩ := h p hp
  refine ⟨ps, k _ _ h1 (fun _ z => nomatch z), h2, fun pos cv hc => ?_⟩
  obtain ⟨c, e1, e2⟩ := h3 pos cv hc
  exact ⟨c, e1, k _ _ e2 fun _ z => nomatch z⟩
theorem tabs_new {T : List NdefX.NTab} {H : Hp} {p : Addr} {o : HO} (h : NdefX.TabsN T H) (hp : H p = none) : NdefX.TabsN T (upd H p o) := tabs_mono h fun b u e _ => by rw [upd_ne (ne_of_none e hp)]; exact e
theorem tabs_lst {T : List NdefX.NTab} {H : Hp} {p : Addr} {vs ws : List V} (h : NdefX.TabsN T H) (hp : H p = some (.lst vs)) : NdefX.TabsN T (upd H p (.lst ws)) := tabs_mono h fun b u e n => by
  rw [upd_ne (a := p) (b := b) (fun z => by rw [z, hp] at e; cases e; exact n _ rfl)]; exact e
/-- the names' values -/
def REnv (A : AS) (en : DEnv) (σ : L2.St) : Prop := en.length = σ.length ∧ ∀ (i : Nat) (d : D), en[i]? = some (some d) → ∃ v, σ[i]? = some (some v) ∧ Rep K mg A d v
/-- behind a step -/
def Aft {α : Type} (A : AS) (r : Res α) (Q : α → AS → Prop) : Prop := match r with
  | .ok d S' => ∀ A' : AS, A'.S = S' → Ok K mg T A' → Ext A A' → Q d A'
  | .bad => False
def tE (f : DEnv → M D) : TE := fun σ H Q => ∃ A en, A.H = H ∧ Ok K mg T A ∧ REnv K mg A en σ ∧ Aft K mg T A (f en A.S) fun d A' => ∀ v, Rep K mg A' d v → Q v A'.H
def tA (f : DEnv → M (List D)) : TA := fun σ H Q => ∃ A en, A.H = H ∧ Ok K mg T A ∧ REnv K mg A en σ ∧ Aft K mg T A (f en A.S) fun d A' => ∀ v, Reps K mg A' d v → Q v A'.H
def tT (f : DEnv → M Bool) : TT := fun σ H Q => ∃ A en, A.H = H ∧ Ok K mg T A ∧ REnv K mg A en σ ∧ Aft K mg T A (f en A.S) fun b A' => Q b A'.H
end
section
variable {K : PySem.W.Frag} {mg : Str → Option Value} {T : List NdefX.NTab} {A A' A1 A2 : AS}
theorem Ext.refl (A : AS) : Ext A A := ⟨fun _ _ h => h, fun _ h => h, fun _ _ h => h, fun _ _ h _ _ => h, fun _ _ h => h, fun _ h => h⟩
theorem Ext.trans (a : Ext A A1) (b : Ext A1 A2) : Ext A A2 := by
  refine ⟨fun i x h => b.pre i x (a.pre i x h), fun x h => b.sup x (a.sup x h), fun x h l => a.hid x h (b.hid x (a.some x h) l), fun x o h n t => b.keep x o (a.keep x o h n t) (fun l => n (a.old x (seen_of h t) l)) t, fun x h l => a.old x h (b.old x (a.some x h) l), fun x h => b.some x (a.some x h)⟩
theorem Ext.tr (a : Ext A A1) : Tr A A1 := ⟨a.pre, a.hid, fun x o h n _ t => a.keep x o h n t, fun x h _ l => a.old x h l⟩
theorem Ok.notup (ok : Ok K mg T A) {a : Addr} {o : HO} (h : A.H a = some o) (n : ∀ vs, o ≠ .lst vs) : ¬ A.live a := fun ⟨i, c, h1, h2⟩ => by
  obtain ⟨vs, e, _⟩ := ok.cell i a c h1 h2
  rw [h] at e
  cases e
  exact n vs rfl
theorem Ok.none_live (ok : Ok K mg T A) {a : Addr} (h : A.H a = none) : ¬ A.live a := fun ⟨i, c, h1, h2⟩ => by
  obtain ⟨vs, e, _⟩ := ok.cell i a c h1 h2
  rw [h] at e
  cases e
theorem Ok.none_hid (ok : Ok K mg T A) {a : Addr} (h : A.H a = none) : a ∉ A.X := fun z => by
  obtain ⟨⟨vs, e⟩, _⟩ := ok.hid a z
  rw [h] at e
  cases e
theorem Ok.nohid (ok : Ok K mg T A) {a : Addr} {o : HO} (h : A.H a = some o) (n : ∀ vs, o ≠ .lst vs) : a ∉ A.X := fun z => by
  obtain ⟨⟨vs, e⟩, _⟩ := ok.hid a z
  rw [h] at e
  cases e
  exact n vs rfl
theorem sqT_ext (ok : Ok K mg T A) (e : Tr A A') {a : Addr} {vs : List V} (h : SqT K A.H a vs) : SqT K A'.H a vs := by
  rcases h with h | h
  · refine .inl ?_
    rcases h with h | ⟨o, h⟩
    · exact .inl (e.keep a _ h (ok.notup h fun _ z => nomatch z) (ok.nohid h fun _ z => nomatch z) (fun _ z => nomatch z))
    · exact .inr ⟨o, e.keep a _ h (ok.notup h fun _ z => nomatch z) (ok.nohid h fun _ z => nomatch z) (fun _ z => nomatch z)⟩
  · exact .inr h
theorem tupAt_ext (ok : Ok K mg T A) (e : Tr A A') {a : Addr} {vs : List V} (h : TupAt K A.H a vs) : TupAt K A'.H a vs := by
  rcases h with ⟨o, h, d⟩ | h
  · exact .inl ⟨o, e.keep a _ h (ok.notup h fun _ z => nomatch z) (ok.nohid h fun _ z => nomatch z) (fun _ z => nomatch z), d⟩
  · exact .inr h
mutual
theorem Rep.tr (ok : Ok K mg T A) (e : Tr A A') : ∀ (d : D) (v : V), Rep K mg A d v → Rep K mg A' d v
  | .non, v, h => by simpa only [Rep] using h
  | .bl b, v, h => by simpa only [Rep] using h
  | .int i, v, h => by simpa only [Rep] using h
  | .str x, v, h => by simpa only [Rep] using h
  | .tup ds, v, h => by
    simp only [Rep] at h ⊢
    obtain ⟨a, vs, h1, h2, h3⟩ := h
    exact ⟨a, vs, h1, tupAt_ext ok e h2, Reps.tr ok e ds vs h3⟩
  | .wtup ds, v, h => by
    simp only [Rep] at h ⊢
    obtain ⟨a, vs, h1, h2, h3⟩ := h
    exact ⟨a, vs, h1, sqT_ext ok e h2, Reps.tr ok e ds vs h3⟩
  | .lst ds, v, h => by
    simp only [Rep] at h ⊢
    obtain ⟨a, vs, h1, h2, h3, h4, h5⟩ := h
    exact ⟨a, vs, h1, e.keep a _ h2 h3 h4 (fun _ z => nomatch z), fun l => h3 (e.old a (seen_lst h2) h4 l), fun z => h4 (e.hid a (seen_lst h2) z), Reps.tr ok e ds vs h5⟩
  | .fro ds, v, h => by
    simp only [Rep] at h ⊢
    obtain ⟨a, vs, h1, h2, h3⟩ := h
    refine ⟨a, vs, h1, ?_, Reps.tr ok e ds vs h3⟩
    rcases h2 with ⟨o, h2⟩ | h2
    · exact .inl ⟨o, e.keep a _ h2 (ok.notup h2 fun _ z => nomatch z) (ok.nohid h2 fun _ z => nomatch z) (fun _ z => nomatch z)⟩
    · exact .inr h2
  | .cel n, v, h => by
    simp only [Rep] at h ⊢
    obtain ⟨a, h1, h2⟩ := h
    exact ⟨a, h1, e.pre _ _ h2⟩
  | .glo x, v, h => by simpa only [Rep] using h
  | .ty n, v, h => by simpa only [Rep] using h
  | .lam L ds, v, h => by
    simp only [Rep] at h ⊢
    exact ⟨h.1, e.keep _ _ h.2.1 (ok.notup h.2.1 fun _ z => nomatch z) (ok.nohid h.2.1 fun _ z => nomatch z) (fun _ z => nomatch z), Reps.tr ok e ds L.ws h.2.2⟩
theorem Reps.tr (ok : Ok K mg T A) (e : Tr A A') : ∀ (ds : List D) (vs : List V), Reps K mg A ds vs → Reps K mg A' ds vs
  | [], vs, h => by simpa only [Reps] using h
  | d :: ds, vs, h => by
    simp only [Reps] at h ⊢
    obtain ⟨v, r, h1, h2, h3⟩ := h
    exact ⟨v, r, h1, Rep.tr ok e d v h2, Reps.tr ok e ds r h3⟩
end
theorem Rep.ext (ok : Ok K mg T A) (e : Ext A A') (d : D) (v : V) (h : Rep K mg A d v) : Rep K mg A' d v := Rep.tr ok e.tr d v h
theorem Reps.ext (ok : Ok K mg T A) (e : Ext A A') (ds : List D) (vs : List V) (h : Reps K mg A ds vs) : Reps K mg A' ds vs := Reps.tr ok e.tr ds vs h
theorem REnv.ext (ok : Ok K mg T A) (e : Ext A A') {en : DEnv} {σ : L2.St} (h : REnv K mg A en σ) : REnv K mg A' en σ :=
  ⟨h.1, fun i d q => let ⟨v, a, b⟩ := h.2 i d q; ⟨v, a, b.ext ok e d v⟩⟩
theorem REnv.get {en : DEnv} {σ : L2.St} {i : Nat} {d : D} (h : REnv K mg A en σ) (q : en[i]? = some (some d)) : ∃ v, σ[i]? = some (some v) ∧ Rep K mg A d v := h.2 i d q
theorem REnv.set {en : DEnv} {σ : L2.St} {d : D} {v : V} (h : REnv K mg A en σ) (i : Nat) (r : Rep K mg A d v) : REnv K mg A (en.set i (some d)) (σ.set i (some v)) := by
  refine ⟨by simp [h.1], fun j e q => ?_⟩
  by_cases hj : i = j
  · subst hj
    by_cases hi : i < en.length
    · rw [List.getElem?_set_self hi] at q
      cases q
      exact ⟨v, List.getElem?_set_self (by rw [← h.1]; exact hi), r⟩
    · rw [List.getElem?_eq_none (by simpa using hi)] at q
      cases q
  · rw [List.getElem?_set_ne hj] at q
    obtain ⟨w, a, b⟩ := h.2 j e q
    exact ⟨w, by rw [List.getElem?_set_ne hj]; exact a, b⟩
theorem Aft.mono {α : Type} {r : Res α} {Q Q' : α → AS → Prop} (h : Aft K mg T A r Q) (hq : ∀ d A', Ok K mg T A' → Ext A A' → Q d A' → Q' d A') : Aft K mg T A r Q' := by
  cases r with
  | ok d S => exact fun A' e ok x => hq d A' ok x (h A' e ok x)
  | bad => exact h
theorem Aft.bind {α β : Type} {x : M α} {f : α → M β} {Q : β → AS → Prop} (h : Aft K mg T A (M.bind x f A.S) Q) : Aft K mg T A (x A.S) fun d A1 => Aft K mg T A1 (f d A1.S) Q := by
  unfold M.bind at h
  cases e : x A.S with
  | bad => rw [e] at h; exact h
  | ok d S1 =>
    rw [e] at h
    intro A1 e1 ok1 x1
    have h2 : Aft K mg T A (f d S1) Q := h
    show Aft K mg T A1 (f d A1.S) Q
    rw [e1]
    cases e2 : f d S1 with
    | bad => rw [e2] at h2; exact h2
    | ok b S2 =>
      rw [e2] at h2
      exact fun A2 e3 ok2 x2 => h2 A2 e3 ok2 (x1.trans x2)
theorem Aft.bindO {α β : Type} {x : M α} {f : α → M β} {Q : β → AS → Prop} (h : Aft K mg T A (M.bind x f A.S) Q) : Aft K mg T A (x A.S) fun d A1 => Aft K mg T A (f d A1.S) Q := by
  unfold M.bind at h
  cases e : x A.S with
  | bad => rw [e] at h; exact h
  | ok d S1 =>
    rw [e] at h
    intro A1 e1 ok1 x1
    show Aft K mg T A (f d A1.S) Q
    rw [e1]
    exact h
/-- behind a step that gives a and changes nothing -/
theorem Aft.now {α : Type} {a : α} {Q : α → AS → Prop} (ok : Ok K mg T A) (h : Aft K mg T A (.ok a A.S) Q) : Q a A := h A rfl ok (Ext.refl A)
/-! ### new objects -/
theorem new_ok (ok : Ok K mg T A) {p : Addr} {o : HO} (hp : A.H p = none) : Ok K mg T { A with H := upd A.H p o } ∧ Ext A { A with H := upd A.H p o } := by
  have ne : ∀ {a : Addr} {u : HO}, A.H a = some u → a ≠ p := fun h => ne_of_none h hp
  have ex : Ext A { A with H := upd A.H p o } := ⟨fun _ _ h => h, fun _ h => h, fun _ _ h => h, fun a u h _ _ => by show upd A.H p o a = some u; rw [upd_ne (ne h)]; exact h, fun _ _ h => h, fun a h => seen_upd h hp⟩
  refine ⟨⟨ok.len, fun i a c h1 h2 => ?_, ok.inj, fun a ha => ?_, tabs_new ok.tab hp⟩, ex⟩
  · obtain ⟨vs, e, r⟩ := ok.cell i a c h1 h2
    exact ⟨vs, by show upd A.H p o a = _; rw [upd_ne (ne e)]; exact e, Reps.ext ok ex _ _ r⟩
  · obtain ⟨⟨vs, h1⟩, h2⟩ := ok.hid a ha
    exact ⟨⟨vs, by show upd A.H p o a = _; rw [upd_ne (ne h1)]; exact h1⟩, h2⟩
theorem new_tup (ok : Ok K mg T A) {p : Addr} {ob : Obj} {ds : List D} {vs : List V} (hp : A.H p = none) (hd : ob.dict = none) (r : Reps K mg A ds vs) : Rep K mg { A with H := upd A.H p (.frz ob (.tup vs)) } (.tup ds) (.ref p) := by
  simp only [Rep]
  exact ⟨p, vs, rfl, .inl ⟨ob, upd_same, hd⟩, Reps.ext ok (new_ok ok hp).2 _ _ r⟩
theorem new_wtup (ok : Ok K mg T A) {p : Addr} {ds : List D} {vs : List V} (hp : A.H p = none) (r : Reps K mg A ds vs) : Rep K mg { A with H := upd A.H p (.tup vs) } (.wtup ds) (.ref p) := by
  simp only [Rep]
  exact ⟨p, vs, rfl, .inl (.inl upd_same), Reps.ext ok (new_ok ok hp).2 _ _ r⟩
theorem new_lst (ok : Ok K mg T A) {p : Addr} {ds : List D} {vs : List V} (hp : A.H p = none) (r : Reps K mg A ds vs) : Rep K mg { A with H := upd A.H p (.lst vs) } (.lst ds) (.ref p) := by
  simp only [Rep]
  exact ⟨p, vs, rfl, upd_same, ok.none_live hp, ok.none_hid hp, Reps.ext ok (new_ok ok hp).2 _ _ r⟩
/-- a new cell -/
abbrev AS.mk1 (A : AS) (p : Addr) (ds : List D) (vs : List V) : AS := { S := A.S ++ [some ds], ρ := A.ρ ++ [p], X := A.X, H := upd A.H p (.lst vs) }
theorem get_app {α : Type} {l : List α} {x y : α} {i : Nat} (h : (l ++ [x])[i]? = some y) : l[i]? = some y ∨ (i = l.length ∧ x = y) := by
  by_cases hi : i < l.length
  · rw [List.getElem?_append_left hi] at h; exact .inl h
  · rw [List.getElem?_append_right (by omega)] at h
    cases e : i - l.length with
    | zero => rw [e] at h; exact .inr ⟨by omega, by simpa using h⟩
    | succ k => rw [e] at h; simp at h
theorem new_cel (ok : Ok K mg T A) {p : Addr} {ds : List D} {vs : List V} (hp : A.H p = none) (r : Reps K mg A ds vs) :
    Ok K mg T (A.mk1 p ds vs) ∧ Ext A (A.mk1 p ds vs) ∧ Rep K mg (A.mk1 p ds vs) (.cel A.S.length) (.ref p) := by
  have ne : ∀ {a : Addr} {u : HO}, A.H a = some u → a ≠ p := fun h => ne_of_none h hp
  have pre : ∀ i a, A.ρ[i]? = some a → (A.ρ ++ [p])[i]? = some a := fun i a h => by
    rw [List.getElem?_append_left (List.getElem?_eq_some_iff.mp h).1]; exact h
  have lv : ∀ {a}, (A.mk1 p ds vs).live a → A.live a ∨ a = p := fun {a} ⟨i, c, h1, h2⟩ => by
    have h1 : (A.S ++ [some ds])[i]? = some (some c) := h1
    have h2 : (A.ρ ++ [p])[i]? = some a := h2
    rcases get_app h1 with q1 | ⟨q1, _⟩
    · rcases get_app h2 with q2 | ⟨q2, _⟩
      · exact .inl ⟨i, c, q1, q2⟩
      · have := (List.getElem?_eq_some_iff.mp q1).1
        rw [q2, ok.len] at this
        exact absurd this (Nat.lt_irrefl _)
    · rcases get_app h2 with q2 | ⟨_, q2⟩
      · have := (List.getElem?_eq_some_iff.mp q2).1
        rw [q1, ok.len] at this
        exact absurd this (Nat.lt_irrefl _)
      · exact .inr q2.symm
  have ex : Ext A (A.mk1 p ds vs) := ⟨pre, fun _ h => h, fun _ _ h => h, fun a u h _ _ => by show upd A.H p _ a = some u; rw [upd_ne (ne h)]; exact h, fun a h l => (lv l).elim id fun e => (h.not (by rw [e]; exact hp)).elim, fun a h => seen_upd h hp⟩
  refine ⟨⟨by simp [ok.len], fun i a c h1 h2 => ?_, fun i j a c d h1 h2 h3 h4 => ?_, fun a ha => ?_, tabs_new ok.tab hp⟩, ex, ?_⟩
  · have h1 : (A.S ++ [some ds])[i]? = some (some c) := h1
    have h2 : (A.ρ ++ [p])[i]? = some a := h2
    rcases get_app h1 with q1 | ⟨q1, e⟩
    · have hi := (List.getElem?_eq_some_iff.mp q1).1
      rw [List.getElem?_append_left (by rw [ok.len]; exact hi)] at h2
      obtain ⟨ws, e, r'⟩ := ok.cell i a c q1 h2
      exact ⟨ws, by show upd A.H p _ a = _; rw [upd_ne (ne e)]; exact e, Reps.ext ok ex _ _ r'⟩
    · cases e
      rw [List.getElem?_append_right (by rw [ok.len, q1]; exact Nat.le_refl _), ok.len, q1, Nat.sub_self] at h2
      have e : p = a := by simpa using h2
      subst e
      exact ⟨vs, upd_same, Reps.ext ok ex _ _ r⟩
  · have h1 : (A.S ++ [some ds])[i]? = some (some c) := h1
    have h2 : (A.S ++ [some ds])[j]? = some (some d) := h2
    have h3 : (A.ρ ++ [p])[i]? = some a := h3
    have h4 : (A.ρ ++ [p])[j]? = some a := h4
    have key : ∀ {i c}, (A.S ++ [some ds])[i]? = some (some c) → (A.ρ ++ [p])[i]? = some a → (A.S[i]? = some (some c) ∧ A.ρ[i]? = some a ∧ a ≠ p) ∨ (i = A.S.length ∧ a = p) := fun {i c} h1 h2 => by
      rcases get_app h1 with q1 | ⟨q1, e⟩
      · have hi := (List.getElem?_eq_some_iff.mp q1).1
        rw [List.getElem?_append_left (by rw [ok.len]; exact hi)] at h2
        obtain ⟨ws, e, _⟩ := ok.cell i a c q1 h2
        exact .inl ⟨q1, h2, ne e⟩
      · rw [List.getElem?_append_right (by rw [ok.len, q1]; exact Nat.le_refl _), ok.len, q1, Nat.sub_self] at h2
        exact .inr ⟨q1, by simpa using h2.symm⟩
    rcases key h1 h3 with ⟨a1, a2, a3⟩ | ⟨a1, a2⟩
    · rcases key h2 h4 with ⟨b1, b2, b3⟩ | ⟨b1, b2⟩
      · exact ok.inj i j a c d a1 b1 a2 b2
      · exact absurd b2 a3
    · rcases key h2 h4 with ⟨b1, b2, b3⟩ | ⟨b1, b2⟩
      · exact absurd a2 b3
      · rw [a1, b1]
  · obtain ⟨⟨ws, h1⟩, h2⟩ := ok.hid a ha
    refine ⟨⟨ws, by show upd A.H p _ a = _; rw [upd_ne (ne h1)]; exact h1⟩, fun l => ?_⟩
    rcases lv l with q | q
    · exact h2 q
    · rw [q, hp] at h1
      cases h1
  · simp only [Rep]
    exact ⟨p, rfl, by rw [List.getElem?_append_right (by rw [ok.len]; exact Nat.le_refl _), ok.len, Nat.sub_self]; rfl⟩
/-- a cell's content changed -/
abbrev AS.put (A : AS) (i : Nat) (a : Addr) (ds : List D) (vs : List V) : AS := { S := A.S.set i (some ds), ρ := A.ρ, X := A.X, H := upd A.H a (.lst vs) }
theorem put_ok (ok : Ok K mg T A) {i : Nat} {a : Addr} {c ds : List D} {vs : List V} (h1 : A.S[i]? = some (some c)) (h2 : A.ρ[i]? = some a) (r : Reps K mg A ds vs) :
    Ok K mg T (A.put i a ds vs) ∧ Ext A (A.put i a ds vs) := by
  have hi := (List.getElem?_eq_some_iff.mp h1).1
  have la : A.live a := ⟨i, c, h1, h2⟩
  have lv : ∀ {b}, (A.put i a ds vs).live b → A.live b := fun {b} ⟨j, d, q1, q2⟩ => by
    have q1 : (A.S.set i (some ds))[j]? = some (some d) := q1
    by_cases hj : i = j
    · subst hj; exact ⟨i, c, h1, q2⟩
    · rw [List.getElem?_set_ne hj] at q1; exact ⟨j, d, q1, q2⟩
  have ex : Ext A (A.put i a ds vs) := ⟨fun _ _ h => h, fun _ h => h, fun _ _ h => h, fun b u h n _ => by
    show upd A.H a _ b = some u
    rw [upd_ne (a := a) (b := b) (fun e => n (by rw [e]; exact la))]; exact h, fun b _ l => lv l, fun b h => seen_put h⟩
  refine ⟨⟨by simp [ok.len], fun j b d q1 q2 => ?_, fun j k b d e q1 q2 q3 q4 => ?_, fun b hb => ?_, let ⟨_, e, _⟩ := ok.cell i a c h1 h2; tabs_lst ok.tab e⟩, ex⟩
  · have q3 : (A.S.set i (some ds))[j]? = some (some d) := q1
    by_cases hj : i = j
    · subst hj
      rw [List.getElem?_set_self hi] at q3
      cases q3
      have q2 : A.ρ[i]? = some b := q2
      rw [h2] at q2
      cases q2
      exact ⟨vs, upd_same, Reps.ext ok ex _ _ r⟩
    · rw [List.getElem?_set_ne hj] at q3
      obtain ⟨ws, e, r'⟩ := ok.cell j b d q3 q2
      refine ⟨ws, ?_, Reps.ext ok ex _ _ r'⟩
      show upd A.H a _ b = _
      have nb : b ≠ a := fun z => by
        rw [z] at q2
        exact hj (ok.inj i j a c d h1 q3 h2 q2)
      rw [upd_ne nb]
      exact e
  · have q1 : (A.S.set i (some ds))[j]? = some (some d) := q1
    have q2 : (A.S.set i (some ds))[k]? = some (some e) := q2
    have key : ∀ {j d}, (A.S.set i (some ds))[j]? = some (some d) → ∃ d', A.S[j]? = some (some d') := fun {j d} q => by
      by_cases hj : i = j
      · subst hj; exact ⟨c, h1⟩
      · rw [List.getElem?_set_ne hj] at q; exact ⟨d, q⟩
    obtain ⟨d', z1⟩ := key q1
    obtain ⟨e', z2⟩ := key q2
    exact ok.inj j k b d' e' z1 z2 q3 q4
  · obtain ⟨⟨ws, z1⟩, z2⟩ := ok.hid b hb
    refine ⟨⟨ws, ?_⟩, fun l => z2 (lv l)⟩
    show upd A.H a _ b = _
    rw [upd_ne (a := a) (b := b) (fun e => z2 (by rw [e]; exact la))]; exact z1
/-- a cell frozen: from now on its list is a value -/
abbrev AS.fz (A : AS) (i : Nat) : AS := { A with S := A.S.set i none }
theorem fz_ok (ok : Ok K mg T A) {i : Nat} {a : Addr} {c : List D} (h1 : A.S[i]? = some (some c)) (h2 : A.ρ[i]? = some a) :
    Ok K mg T (A.fz i) ∧ Ext A (A.fz i) ∧ Rep K mg (A.fz i) (.lst c) (.ref a) := by
  have hi := (List.getElem?_eq_some_iff.mp h1).1
  have key : ∀ {j d}, (A.S.set i none)[j]? = some (some d) → i ≠ j ∧ A.S[j]? = some (some d) := fun {j d} q => by
    by_cases hj : i = j
    · subst hj; rw [List.getElem?_set_self hi] at q; cases q
    · rw [List.getElem?_set_ne hj] at q; exact ⟨hj, q⟩
  have lv : ∀ {b}, (A.fz i).live b → A.live b := fun {b} ⟨j, d, q1, q2⟩ => ⟨j, d, (key q1).2, q2⟩
  have ex : Ext A (A.fz i) := ⟨fun _ _ h => h, fun _ h => h, fun _ _ h => h, fun b u h n _ => h, fun b _ l => lv l, fun _ h => h⟩
  refine ⟨⟨by simp [ok.len], fun j b d q1 q2 => ?_, fun j k b d e q1 q2 q3 q4 => ok.inj j k b d e (key q1).2 (key q2).2 q3 q4, fun b hb => ⟨(ok.hid b hb).1, fun l => (ok.hid b hb).2 (lv l)⟩, ok.tab⟩, ex, ?_⟩
  · obtain ⟨ws, e, r⟩ := ok.cell j b d (key q1).2 q2
    exact ⟨ws, e, Reps.ext ok ex _ _ r⟩
  · obtain ⟨vs, e, r⟩ := ok.cell i a c h1 h2
    simp only [Rep]
    refine ⟨a, vs, rfl, e, fun ⟨j, d, q1, q2⟩ => ?_, fun z => (ok.hid a z).2 ⟨i, c, h1, h2⟩, Reps.ext ok ex _ _ r⟩
    exact (key q1).1 (ok.inj i j a c d h1 (key q1).2 h2 q2)
end
/-! ### lists as operands: a value or a cell -/
def listOf (S : Sto) : D → Option (List D)
  | .lst ds => some ds
  | .fro ds => some ds
  | .cel n => (S[n]?).join
  | _ => none
def seqOf (S : Sto) : D → Option (List D)
  | .tup ds => some ds
  | .wtup ds => some ds
  | d => listOf S d
section
variable {K : PySem.W.Frag} {mg : Str → Option Value} {T : List NdefX.NTab} {A A' A1 A2 : AS}
theorem listOf_ok (ok : Ok K mg T A) {d : D} {v : V} {ds : List D} (r : Rep K mg A d v) (h : listOf A.S d = some ds) : ∃ a vs, v = .ref a ∧ SqL K A.H a vs ∧ Reps K mg A ds vs := by
  cases d with
  | lst xs =>
    cases h
    simp only [Rep] at r
    obtain ⟨a, vs, h1, h2, _, _, h3⟩ := r
    exact ⟨a, vs, h1, .inl (.inl h2), h3⟩
  | fro xs =>
    cases h
    simp only [Rep] at r
    obtain ⟨a, vs, h1, h2, h3⟩ := r
    refine ⟨a, vs, h1, ?_, h3⟩
    rcases h2 with ⟨o, h2⟩ | h2
    · exact .inl (.inr ⟨o, h2⟩)
    · exact .inr h2
  | cel n =>
    simp only [Rep] at r
    obtain ⟨a, h1, h2⟩ := r
    have e : A.S[n]? = some (some ds) := by
      have h : (A.S[n]?).join = some ds := h
      cases q : A.S[n]? with
      | none => rw [q] at h; cases h
      | some o => rw [q] at h; exact congrArg some h
    obtain ⟨vs, e1, r1⟩ := ok.cell n a ds e h2
    exact ⟨a, vs, h1, .inl (.inl e1), r1⟩
  | _ => cases h
/-- a list that is tracked (not the script) -/
def mutOf (S : Sto) : D → Option (List D)
  | .lst ds => some ds
  | .cel n => (S[n]?).join
  | _ => none
theorem mutOf_ok (ok : Ok K mg T A) {d : D} {v : V} {ds : List D} (r : Rep K mg A d v) (h : mutOf A.S d = some ds) : ∃ a vs, v = .ref a ∧ A.H a = some (.lst vs) ∧ Reps K mg A ds vs := by
  cases d with
  | lst xs =>
    cases h
    simp only [Rep] at r
    obtain ⟨a, vs, h1, h2, _, _, h3⟩ := r
    exact ⟨a, vs, h1, h2, h3⟩
  | cel n =>
    simp only [Rep] at r
    obtain ⟨a, h1, h2⟩ := r
    have e : A.S[n]? = some (some ds) := by
      have h : (A.S[n]?).join = some ds := h
      cases q : A.S[n]? with
      | none => rw [q] at h; cases h
      | some o => rw [q] at h; exact congrArg some h
    obtain ⟨vs, e1, r1⟩ := ok.cell n a ds e h2
    exact ⟨a, vs, h1, e1, r1⟩
  | _ => cases h
theorem seqOf_ok (ok : Ok K mg T A) {d : D} {v : V} {ds : List D} (r : Rep K mg A d v) (h : seqOf A.S d = some ds) : ∃ a vs, v = .ref a ∧ (SqL K A.H a vs ∨ SqT K A.H a vs) ∧ Reps K mg A ds vs := by
  cases d with
  | tup xs =>
    cases h
    simp only [Rep] at r
    obtain ⟨a, vs, h1, h2, h3⟩ := r
    exact ⟨a, vs, h1, .inr h2.sq, h3⟩
  | wtup xs =>
    cases h
    simp only [Rep] at r
    obtain ⟨a, vs, h1, h2, h3⟩ := r
    exact ⟨a, vs, h1, .inr h2, h3⟩
  | lst xs => obtain ⟨a, vs, h1, h2, h3⟩ := listOf_ok ok r h; exact ⟨a, vs, h1, .inl h2, h3⟩
  | fro xs => obtain ⟨a, vs, h1, h2, h3⟩ := listOf_ok ok r h; exact ⟨a, vs, h1, .inl h2, h3⟩
  | cel xs => obtain ⟨a, vs, h1, h2, h3⟩ := listOf_ok ok r h; exact ⟨a, vs, h1, .inl h2, h3⟩
  | _ => cases h
theorem Reps.length : ∀ {ds : List D} {vs : List V}, Reps K mg A ds vs → ds.length = vs.length
  | [], vs, h => by simp only [Reps] at h; rw [h]; rfl
  | d :: ds, vs, h => by
    simp only [Reps] at h
    obtain ⟨v, r, h1, _, h3⟩ := h
    rw [h1, List.length_cons, List.length_cons, Reps.length h3]
theorem Reps.get : ∀ {ds : List D} {vs : List V} {i : Nat} {d : D}, Reps K mg A ds vs → ds[i]? = some d → ∃ v, vs[i]? = some v ∧ Rep K mg A d v
  | [], vs, i, d, h, e => by simp at e
  | d :: ds, vs, 0, d', h, e => by
    simp only [Reps] at h
    obtain ⟨v, r, h1, h2, h3⟩ := h
    cases (show some d = some d' from e)
    exact ⟨v, by rw [h1]; rfl, h2⟩
  | d :: ds, vs, i + 1, d', h, e => by
    simp only [Reps] at h
    obtain ⟨v, r, h1, h2, h3⟩ := h
    obtain ⟨w, a, b⟩ := Reps.get (i := i) h3 (by simpa using e)
    exact ⟨w, by rw [h1]; simpa using a, b⟩
theorem Reps.append : ∀ {ds es : List D} {vs ws : List V}, Reps K mg A ds vs → Reps K mg A es ws → Reps K mg A (ds ++ es) (vs ++ ws)
  | [], es, vs, ws, h, h' => by simp only [Reps] at h; rw [h]; exact h'
  | d :: ds, es, vs, ws, h, h' => by
    simp only [Reps] at h
    obtain ⟨v, r, h1, h2, h3⟩ := h
    rw [h1]
    show Reps K mg A (d :: (ds ++ es)) (v :: (r ++ ws))
    simp only [Reps]
    exact ⟨v, r ++ ws, rfl, h2, Reps.append h3 h'⟩
theorem Reps.drop : ∀ {ds : List D} {vs : List V} (n : Nat), Reps K mg A ds vs → Reps K mg A (ds.drop n) (vs.drop n)
  | ds, vs, 0, h => by simpa using h
  | [], vs, n + 1, h => by simp only [Reps] at h; rw [h]; simp [Reps]
  | d :: ds, vs, n + 1, h => by
    simp only [Reps] at h
    obtain ⟨v, r, h1, h2, h3⟩ := h
    rw [h1]
    exact Reps.drop n h3
theorem Reps.take : ∀ {ds : List D} {vs : List V} (n : Nat), Reps K mg A ds vs → Reps K mg A (ds.take n) (vs.take n)
  | ds, vs, 0, h => by simp [Reps]
  | [], vs, n + 1, h => by simp only [Reps] at h; rw [h]; simp [Reps]
  | d :: ds, vs, n + 1, h => by
    simp only [Reps] at h
    obtain ⟨v, r, h1, h2, h3⟩ := h
    rw [h1]
    show Reps K mg A (d :: ds.take n) (v :: r.take n)
    simp only [Reps]
    exact ⟨v, r.take n, rfl, h2, Reps.take n h3⟩
theorem Reps.set {d : D} {v : V} (q : Rep K mg A d v) : ∀ {ds : List D} {vs : List V} (i : Nat), Reps K mg A ds vs → Reps K mg A (ds.set i d) (vs.set i v)
  | [], vs, i, h => by simp only [Reps] at h; rw [h]; simp [Reps]
  | e :: ds, vs, 0, h => by
    simp only [Reps] at h
    obtain ⟨w, r, h1, h2, h3⟩ := h
    rw [h1]
    show Reps K mg A (d :: ds) (v :: r)
    simp only [Reps]
    exact ⟨v, r, rfl, q, h3⟩
  | e :: ds, vs, i + 1, h => by
    simp only [Reps] at h
    obtain ⟨w, r, h1, h2, h3⟩ := h
    rw [h1]
    show Reps K mg A (e :: ds.set i d) (w :: r.set i v)
    simp only [Reps]
    exact ⟨w, r.set i v, rfl, h2, Reps.set q i h3⟩
theorem Reps.reverse : ∀ {ds : List D} {vs : List V}, Reps K mg A ds vs → Reps K mg A ds.reverse vs.reverse
  | [], vs, h => by simp only [Reps] at h; rw [h]; simp [Reps]
  | d :: ds, vs, h => by
    simp only [Reps] at h
    obtain ⟨v, r, h1, h2, h3⟩ := h
    rw [h1, List.reverse_cons, List.reverse_cons]
    exact Reps.append (Reps.reverse h3) (by simp only [Reps]; exact ⟨v, [], rfl, h2, rfl⟩)
theorem reps_ints : ∀ (ns : List Int), Reps K mg A (ns.map D.int) (ns.map V.int)
  | [] => by simp [Reps]
  | n :: ns => by
    show Reps K mg A (D.int n :: ns.map D.int) (V.int n :: ns.map V.int)
    simp only [Reps]
    exact ⟨_, _, rfl, by simp only [Rep], reps_ints ns⟩
theorem reps_map {α : Type} {f : α → D} {g : α → V} (h : ∀ x, Rep K mg A (f x) (g x)) : ∀ (xs : List α), Reps K mg A (xs.map f) (xs.map g)
  | [] => by simp [Reps]
  | n :: ns => by
    show Reps K mg A (f n :: ns.map f) (g n :: ns.map g)
    simp only [Reps]
    exact ⟨_, _, rfl, h n, reps_map h ns⟩
/-- a list of one kind of flat values is its values -/
theorem reps_inv {α : Type} {f : α → D} {g : α → V} (h : ∀ x v, Rep K mg A (f x) v → v = g x) : ∀ (xs : List α) (vs : List V), Reps K mg A (xs.map f) vs → vs = xs.map g
  | [], vs, r => by simpa [Reps] using r
  | n :: ns, vs, r => by
    have r : Reps K mg A (f n :: ns.map f) vs := r
    simp only [Reps] at r
    obtain ⟨v, t, h1, h2, h3⟩ := r
    rw [h1, h n v h2, reps_inv h ns t h3]
    rfl
end
end VL
/-! VL2: expressions. -/
namespace VL
open PySem PySem.Spec PyProof.Rows L2
theorem pe_imp {X : Cx} {e : Expr} {t t' : TE} (h : PE X e t) (i : ∀ σ H Q, t' σ H Q → t σ H Q) : PE X e t' := ⟨fun pins s σ H Q I q => h.run pins s σ H Q I (i _ _ _ q)⟩
theorem pa_imp {X : Cx} {e : List Expr} {t t' : TA} (h : PA X e t) (i : ∀ σ H Q, t' σ H Q → t σ H Q) : PA X e t' := ⟨fun p pins s σ H Q I q => h.run p pins s σ H Q I (i _ _ _ q)⟩
theorem pt_imp {X : Cx} {e : Expr} {t t' : TT} (h : PT X e t) (i : ∀ σ H Q, t' σ H Q → t σ H Q) : PT X e t' := ⟨fun pins s σ H Q I q => h.run pins s σ H Q I (i _ _ _ q)⟩
theorem pw_imp {X : Cx} {e : Expr} {t t' : TT} (h : PW X e t) (i : ∀ σ H Q, t' σ H Q → t σ H Q) : PW X e t' := ⟨fun w pins s σ H Q I q => h.run w pins s σ H Q I (i _ _ _ q)⟩
theorem opr_imp {X : Cx} {f : Value → Value → Sem Value} {r r' : R2} (h : OpR X f r) (i : ∀ x y H Q, r' x y H Q → r x y H Q) : OpR X f r' := fun pins s σ H x y v u Q I rx ry q => h pins s σ H x y v u Q I rx ry (i _ _ _ _ q)
theorem callr_imp {X : Cx} {f : Value} {r r' : List V → Hp → VK → Prop} (h : CallR X f r) (i : ∀ x H Q, r' x H Q → r x H Q) : CallR X f r' := fun pins s σ H x v Q I rx q => h pins s σ H x v Q I rx (i _ _ _ q)
theorem mtr_imp {X : Cx} {id : String} {r r' : V → List V → Hp → VK → Prop} (h : MtR X id r) (i : ∀ x xs H Q, r' x xs H Q → r x xs H Q) : MtR X id r' := fun pins s σ H x xs v us Q I rx rxs q => h pins s σ H x xs v us Q I rx rxs (i _ _ _ _ q)
abbrev EV (T : List NdefX.NTab) (X : Cx) (e : Expr) (f : DEnv → M D) : Prop := PE X e (tE X.K X.mg T f)
abbrev AV (T : List NdefX.NTab) (X : Cx) (es : List Expr) (f : DEnv → M (List D)) : Prop := PA X es (tA X.K X.mg T f)
abbrev TV (T : List NdefX.NTab) (X : Cx) (e : Expr) (f : DEnv → M Bool) : Prop := PT X e (tT X.K X.mg T f)
abbrev WV (T : List NdefX.NTab) (X : Cx) (e : Expr) (f : DEnv → M Bool) : Prop := PW X e (tT X.K X.mg T f)
/-! ### readings of operations by data -/
section
variable (K : PySem.W.Frag) (mg : Str → Option Value) (T : List NdefX.NTab)
abbrev Fin1 (A : AS) (r : Res D) (Q : VK) : Prop := Aft K mg T A r fun z A' => ∀ u, Rep K mg A' z u → Q u A'.H
def r1 (m : D → M D) : V → Hp → VK → Prop := fun x H Q => ∃ A d, A.H = H ∧ Ok K mg T A ∧ Rep K mg A d x ∧ Fin1 K mg T A (m d A.S) Q
def r2 (m : D → D → M D) : R2 := fun x y H Q => ∃ A d e, A.H = H ∧ Ok K mg T A ∧ Rep K mg A d x ∧ Rep K mg A e y ∧ Fin1 K mg T A (m d e A.S) Q
def rL (m : List D → M D) : List V → Hp → VK → Prop := fun xs H Q => ∃ A ds, A.H = H ∧ Ok K mg T A ∧ Reps K mg A ds xs ∧ Fin1 K mg T A (m ds A.S) Q
def rM (m : D → List D → M D) : V → List V → Hp → VK → Prop := fun x xs H Q => ∃ A d ds, A.H = H ∧ Ok K mg T A ∧ Rep K mg A d x ∧ Reps K mg A ds xs ∧ Fin1 K mg T A (m d ds A.S) Q
end
section
variable {K : PySem.W.Frag} {mg : Str → Option Value} {T : List NdefX.NTab} {A A' A1 A2 : AS}
/-- the end where nothing has changed -/
theorem Aft.val {z : D} {Q : VK} {u : V} (ok : Ok K mg T A) (h : Fin1 K mg T A (.ok z A.S) Q) (r : Rep K mg A z u) : Q u A.H := h A rfl ok (Ext.refl A) u r
/-- the end where a tuple, a list is new -/
theorem Aft.tup {ds : List D} {vs : List V} {Q : VK} (ok : Ok K mg T A) (h : Fin1 K mg T A (.ok (.tup ds) A.S) Q) (r : Reps K mg A ds vs) {p : Addr} {ob : Obj} (hp : A.H p = none) (hd : ob.dict = none) : Q (.ref p) (upd A.H p (.frz ob (.tup vs))) :=
  h { A with H := upd A.H p (.frz ob (.tup vs)) } rfl (new_ok ok hp).1 (new_ok ok hp).2 _ (new_tup ok hp hd r)
theorem Aft.wtup {ds : List D} {vs : List V} {Q : VK} (ok : Ok K mg T A) (h : Fin1 K mg T A (.ok (.wtup ds) A.S) Q) (r : Reps K mg A ds vs) {p : Addr} (hp : A.H p = none) : Q (.ref p) (upd A.H p (.tup vs)) :=
  h { A with H := upd A.H p (.tup vs) } rfl (new_ok ok hp).1 (new_ok ok hp).2 _ (new_wtup ok hp r)
theorem Aft.lst {ds : List D} {vs : List V} {Q : VK} (ok : Ok K mg T A) (h : Fin1 K mg T A (.ok (.lst ds) A.S) Q) (r : Reps K mg A ds vs) {p : Addr} (hp : A.H p = none) : Q (.ref p) (upd A.H p (.lst vs)) :=
  h { A with H := upd A.H p (.lst vs) } rfl (new_ok ok hp).1 (new_ok ok hp).2 _ (new_lst ok hp r)
theorem Aft.cel {ds : List D} {vs : List V} {Q : VK} (ok : Ok K mg T A) (h : Fin1 K mg T A (.ok (.cel A.S.length) (A.S ++ [some ds])) Q) (r : Reps K mg A ds vs) {p : Addr} (hp : A.H p = none) : Q (.ref p) (upd A.H p (.lst vs)) :=
  let ⟨a, b, c⟩ := new_cel ok hp r
  h (A.mk1 p ds vs) rfl a b _ c
end
/-! ### combinators -/
def eVar (i : Nat) : DEnv → M D := fun en S => match en[i]? with
  | some (some d) => .ok d S
  | _ => .bad
def eC (d : D) : DEnv → M D := fun _ S => .ok d S
def e1 (m : D → M D) (f : DEnv → M D) : DEnv → M D := fun en => M.bind (f en) m
def e2 (m : D → D → M D) (f g : DEnv → M D) : DEnv → M D := fun en => M.bind (f en) fun x => M.bind (g en) fun y => m x y
def aNil : DEnv → M (List D) := fun _ S => .ok [] S
def aCons (f : DEnv → M D) (g : DEnv → M (List D)) : DEnv → M (List D) := fun en => M.bind (f en) fun x => M.bind (g en) fun xs => M.pure (x :: xs)
def mSeq (x : D) : M (List D) := fun S => match seqOf S x with
  | some ds => .ok ds S
  | none => .bad
def aStar (f : DEnv → M D) (g : DEnv → M (List D)) : DEnv → M (List D) := fun en => M.bind (f en) fun x => M.bind (mSeq x) fun ds => M.bind (g en) fun xs => M.pure (ds ++ xs)
def eCall (m : List D → M D) (g : DEnv → M (List D)) : DEnv → M D := fun en => M.bind (g en) m
def eMeth (ty : D → M Unit) (m : D → List D → M D) (f : DEnv → M D) (g : DEnv → M (List D)) : DEnv → M D := fun en => M.bind (f en) fun x => M.bind (ty x) fun _ => M.bind (g en) fun xs => m x xs
def mBool (d : D) : M Bool := fun S => match d with
  | .bl b => .ok b S
  | _ => .bad
def tst (f : DEnv → M D) : DEnv → M Bool := fun en => M.bind (f en) mBool
def tAndM (f g : DEnv → M Bool) : DEnv → M Bool := fun en => M.bind (f en) fun b => if b = true then g en else M.pure false
def tOrM (f g : DEnv → M Bool) : DEnv → M Bool := fun en => M.bind (f en) fun b => if b = true then M.pure true else g en
def tNotM (f : DEnv → M Bool) : DEnv → M Bool := fun en => M.bind (f en) fun b => M.pure (!b)
def eIf (c : DEnv → M Bool) (f g : DEnv → M D) : DEnv → M D := fun en => M.bind (c en) fun b => if b = true then f en else g en
def eAndV (f g : DEnv → M D) : DEnv → M D := fun en => M.bind (f en) fun d => M.bind (mBool d) fun b => if b = true then g en else M.pure (.bl false)
def eOrV (f g : DEnv → M D) : DEnv → M D := fun en => M.bind (f en) fun d => M.bind (mBool d) fun b => if b = true then M.pure (.bl true) else g en
def eNotV (f : DEnv → M D) : DEnv → M D := fun en => M.bind (f en) fun d => M.bind (mBool d) fun b => M.pure (.bl (!b))
section
variable {T : List NdefX.NTab} {X : Cx} {a b c e : Expr} {es : List Expr} {pos p : Pos} {f g h : DEnv → M D} {fs : DEnv → M (List D)}
theorem ev_var {x : Str} (i : Nat) (hN : X.N[i]? = some x := by rfl) (hv : Vis X.env.scope x := by first | exact Or.inl rfl | exact Or.inr (Or.inl rfl) | exact Or.inr (Or.inr rfl)) (hd : (x == ("__debug__" : Str)) = false := by decide)
    (hcd : (x == ("__classdict__" : Str)) = false := by decide) : EV T X (.Name x pos) (eVar i) := by
  refine pe_imp (pe_var hN hv hd hcd) ?_
  rintro σ H Q ⟨A, en, rfl, ok, re, q⟩
  unfold eVar at q
  cases he : en[i]? with
  | none => rw [he] at q; exact q.elim
  | some o =>
    cases o with
    | none => rw [he] at q; exact q.elim
    | some d =>
      rw [he] at q
      obtain ⟨v, h1, h2⟩ := re.get he
      exact ⟨v, h1, Aft.val ok q h2⟩
/-- what is one value in every heap -/
theorem ev_c {d : D} {v : V} (hp : PE X e (tC v)) (r : ∀ A, Rep X.K X.mg A d v) : EV T X e (eC d) := by
  refine pe_imp hp ?_
  rintro σ H Q ⟨A, en, rfl, ok, re, q⟩
  exact Aft.val ok q (r A)
theorem ev_int {i : Int} {j : Nat} : EV T X (.Constant (.int i) j pos) (eC (.int i)) := ev_c pe_int fun A => by simp only [Rep]
theorem ev_bl {b : Bool} {j : Nat} : EV T X (.Constant (.bool b) j pos) (eC (.bl b)) := ev_c pe_bl fun A => by simp only [Rep]
theorem ev_non {j : Nat} : EV T X (.Constant .none j pos) (eC .non) := ev_c pe_non fun A => by simp only [Rep]
theorem ev_str {x : Str} {j : Nat} : EV T X (.Constant (.str x) j pos) (eC (.str x)) := ev_c pe_str fun A => by simp only [Rep]
theorem ev_1 {m : D → M D} {op : UnaryOp} (ho : UnR X (unaryOp op) (r1 X.K X.mg T m)) (ha : EV T X a f) : EV T X (.UnaryOp op a pos) (e1 m f) := by
  refine pe_imp (pe_un ho ha) ?_
  rintro σ H Q ⟨A, en, rfl, ok, re, q⟩
  exact ⟨A, en, rfl, ok, re, (Aft.bind q).mono fun d A1 ok1 x1 q1 v rv => ⟨A1, d, rfl, ok1, rv, q1⟩⟩
theorem two {m : D → D → M D} {K : PySem.W.Frag} {mg : Str → Option Value} {T : List NdefX.NTab} {σ : L2.St} {H : Hp} {Q : VK} (h : tE K mg T (e2 m f g) σ H Q) : tE K mg T f σ H fun x H1 => tE K mg T g σ H1 fun y H2 => r2 K mg T m x y H2 Q := by
  obtain ⟨A, en, rfl, ok, re, q⟩ := h
  exact ⟨A, en, rfl, ok, re, (Aft.bind q).mono fun d A1 ok1 x1 q1 v rv => ⟨A1, en, rfl, ok1, re.ext ok x1, (Aft.bind q1).mono fun e A2 ok2 x2 q2 w rw => ⟨A2, d, e, rfl, ok2, rv.ext ok1 x2 _ _, rw, q2⟩⟩⟩
theorem ev_op {op : Operator} {m : D → D → M D} (ho : OpR X (binaryOp op) (r2 X.K X.mg T m)) (ha : EV T X a f) (hb : EV T X b g) : EV T X (.BinOp a op b pos) (e2 m f g) := pe_imp (pe_op ho ha hb) fun σ H Q q => two q
theorem ev_cmp {op : CmpOp} {m : D → D → M D} (ho : OpR X (compareOp op) (r2 X.K X.mg T m)) (ha : EV T X a f) (hb : EV T X b g) (hm : behindInMarks op b = false) : EV T X (.Compare a [op] [b] pos) (e2 m f g) := pe_imp (pe_cmpR ho ha hb hm) fun σ H Q q => two q
theorem ev_ix {m : D → D → M D} (hr : IxR X (r2 X.K X.mg T m)) (ha : EV T X a f) (hb : EV T X b g) (hs : PlainIx b) : EV T X (.Subscript a b pos) (e2 m f g) := pe_imp (pe_ix hr ha hb hs) fun σ H Q q => two q
theorem tst_of {K : PySem.W.Frag} {mg : Str → Option Value} {T : List NdefX.NTab} {σ : L2.St} {H : Hp} {Q : Bool → Hp → Prop} (h : tT K mg T (tst f) σ H Q) : tE K mg T f σ H fun x H1 => ∃ k, x = .bl k ∧ Q k H1 := by
  obtain ⟨A, en, rfl, ok, re, q⟩ := h
  refine ⟨A, en, rfl, ok, re, (Aft.bind q).mono fun d A1 ok1 x1 q1 v rv => ?_⟩
  cases d with
  | bl k =>
    simp only [Rep] at rv
    exact ⟨k, rv, Aft.now ok1 q1⟩
  | _ => exact q1.elim
theorem tv_val (ha : EV T X a f) (he : ∀ whole, isTrue a X.env whole = (do let v ← whole; standAt a.pos; holding [v] (truthy v)) := by intro _; rfl) : TV T X a (tst f) := pt_imp (pt_val ha he) fun σ H Q q => tst_of q
theorem tv_cmp {op : CmpOp} {m : D → D → M D} (ho : OpR X (compareOp op) (r2 X.K X.mg T m)) (ha : EV T X a f) (hb : EV T X b g) (hm : behindInMarks op b = false) : TV T X (.Compare a [op] [b] pos) (tst (e2 m f g)) := by
  refine pt_imp (pt_cmpR ho ha hb hm) fun σ H Q q => ?_
  have := tst_of q
  exact two this
theorem wv_and1 {rest : List Expr} {ft : DEnv → M Bool} (ha : TV T X a ft) : WV T X (.BoolOp .And [a] pos) ft := pw_and1 ha
theorem wv_or1 {ft : DEnv → M Bool} (ha : TV T X a ft) : WV T X (.BoolOp .Or [a] pos) ft := pw_or1 ha
theorem wv_and {rest : List Expr} {ft gt : DEnv → M Bool} (ha : TV T X a ft) (hb : WV T X (.BoolOp .And (b :: rest) pos) gt) : WV T X (.BoolOp .And (a :: b :: rest) pos) (tAndM ft gt) := by
  refine pw_imp (pw_and ha hb) ?_
  rintro σ H Q ⟨A, en, rfl, ok, re, q⟩
  refine ⟨A, en, rfl, ok, re, (Aft.bind q).mono fun d A1 ok1 x1 q1 => ?_⟩
  cases d with
  | true => exact iteT ⟨A1, en, rfl, ok1, re.ext ok x1, q1⟩
  | false => exact iteF (Aft.now ok1 q1)
theorem wv_or {rest : List Expr} {ft gt : DEnv → M Bool} (ha : TV T X a ft) (hb : WV T X (.BoolOp .Or (b :: rest) pos) gt) : WV T X (.BoolOp .Or (a :: b :: rest) pos) (tOrM ft gt) := by
  refine pw_imp (pw_or ha hb) ?_
  rintro σ H Q ⟨A, en, rfl, ok, re, q⟩
  refine ⟨A, en, rfl, ok, re, (Aft.bind q).mono fun d A1 ok1 x1 q1 => ?_⟩
  cases d with
  | true => exact iteT (Aft.now ok1 q1)
  | false => exact iteF ⟨A1, en, rfl, ok1, re.ext ok x1, q1⟩
theorem tv_w {ft : DEnv → M Bool} (h : WV T X a ft) : TV T X a ft := h.pt
theorem tv_not {ft : DEnv → M Bool} (ha : TV T X a ft) : TV T X (.UnaryOp .Not a pos) (tNotM ft) := by
  refine pt_imp (pt_not ha) ?_
  rintro σ H Q ⟨A, en, rfl, ok, re, q⟩
  exact ⟨A, en, rfl, ok, re, (Aft.bind q).mono fun d A1 ok1 x1 q1 => Aft.now ok1 q1⟩
theorem ev_if {ft : DEnv → M Bool} (hc : TV T X c ft) (ha : EV T X a f) (hb : EV T X b g) : EV T X (.IfExp c a b pos) (eIf ft f g) := by
  refine pe_imp (pe_ifExp hc ha hb) ?_
  rintro σ H Q ⟨A, en, rfl, ok, re, q⟩
  refine ⟨A, en, rfl, ok, re, (Aft.bind q).mono fun d A1 ok1 x1 q1 => ?_⟩
  cases d with
  | true => exact iteT ⟨A1, en, rfl, ok1, re.ext ok x1, q1⟩
  | false => exact iteF ⟨A1, en, rfl, ok1, re.ext ok x1, q1⟩
theorem ev_one {op : BoolOp} (h : EV T X a f) : EV T X (.BoolOp op [a] pos) f := pe_one h
theorem ev_and {rest : List Expr} (ha : EV T X a f) (hb : EV T X (.BoolOp .And (b :: rest) pos) g) : EV T X (.BoolOp .And (a :: b :: rest) pos) (eAndV f g) := by
  refine pe_imp (pe_and ha hb) ?_
  rintro σ H Q ⟨A, en, rfl, ok, re, q⟩
  refine ⟨A, en, rfl, ok, re, (Aft.bind q).mono fun d A1 ok1 x1 q1 v rv => ?_⟩
  have q2 := (Aft.bind q1)
  cases d with
  | bl k =>
    simp only [Rep] at rv
    refine ⟨k, rv, ?_⟩
    have q3 := Aft.now ok1 q2
    cases k with
    | true => exact iteT ⟨A1, en, rfl, ok1, re.ext ok x1, q3⟩
    | false => exact iteF (Aft.val ok1 q3 (by simp only [Rep]))
  | _ => exact q2.elim
theorem ev_or {rest : List Expr} (ha : EV T X a f) (hb : EV T X (.BoolOp .Or (b :: rest) pos) g) : EV T X (.BoolOp .Or (a :: b :: rest) pos) (eOrV f g) := by
  refine pe_imp (pe_or ha hb) ?_
  rintro σ H Q ⟨A, en, rfl, ok, re, q⟩
  refine ⟨A, en, rfl, ok, re, (Aft.bind q).mono fun d A1 ok1 x1 q1 v rv => ?_⟩
  have q2 := (Aft.bind q1)
  cases d with
  | bl k =>
    simp only [Rep] at rv
    refine ⟨k, rv, ?_⟩
    have q3 := Aft.now ok1 q2
    cases k with
    | true => exact iteT (Aft.val ok1 q3 (by simp only [Rep]))
    | false => exact iteF ⟨A1, en, rfl, ok1, re.ext ok x1, q3⟩
  | _ => exact q2.elim
theorem ev_not (ha : EV T X a f) : EV T X (.UnaryOp .Not a pos) (eNotV f) := by
  refine pe_imp (pe_not ha) ?_
  rintro σ H Q ⟨A, en, rfl, ok, re, q⟩
  refine ⟨A, en, rfl, ok, re, (Aft.bind q).mono fun d A1 ok1 x1 q1 v rv => ?_⟩
  have q2 := (Aft.bind q1)
  cases d with
  | bl k =>
    simp only [Rep] at rv
    exact ⟨k, rv, Aft.val ok1 (Aft.now ok1 q2) (by simp only [Rep])⟩
  | _ => exact q2.elim
/-! ### argument lists, displays -/
theorem av_nil : AV T X [] aNil := by
  refine pa_imp pa_nil ?_
  rintro σ H Q ⟨A, en, rfl, ok, re, q⟩
  exact q A rfl ok (Ext.refl A) [] (by simp only [Reps])
theorem av_cons (ha : EV T X a f) (hs : AV T X es fs) (he : starEach (a :: es) X.env = (false, eval a X.env) :: starEach es X.env := by rfl) : AV T X (a :: es) (aCons f fs) := by
  refine pa_imp (pa_cons ha hs he) ?_
  rintro σ H Q ⟨A, en, rfl, ok, re, q⟩
  refine ⟨A, en, rfl, ok, re, (Aft.bind q).mono fun d A1 ok1 x1 q1 v rv => ⟨A1, en, rfl, ok1, re.ext ok x1, (Aft.bind q1).mono fun ds A2 ok2 x2 q2 vs rs => ?_⟩⟩
  exact q2 A2 rfl ok2 (Ext.refl A2) _ (by simp only [Reps]; exact ⟨v, vs, rfl, rv.ext ok1 x2 _ _, rs⟩)
theorem av_star (ha : EV T X a f) (hs : AV T X es fs) (he : starEach (.Starred a p :: es) X.env = (true, eval a X.env) :: starEach es X.env := by rfl) : AV T X (.Starred a p :: es) (aStar f fs) := by
  refine pa_imp (StX.pa_star ha hs he) ?_
  rintro σ H Q ⟨A, en, rfl, ok, re, q⟩
  refine ⟨A, en, rfl, ok, re, (Aft.bind q).mono fun d A1 ok1 x1 q1 v rv => ?_⟩
  have q2 := Aft.bind q1
  unfold mSeq at q2
  cases hsq : seqOf A1.S d with
  | none => rw [hsq] at q2; exact q2.elim
  | some ds =>
    rw [hsq] at q2
    obtain ⟨pa, vs, ev, sq, rs⟩ := seqOf_ok ok1 rv hsq
    refine ⟨pa, vs, ev, sq.symm, A1, en, rfl, ok1, re.ext ok x1, (Aft.bind (Aft.now ok1 q2)).mono fun es A2 ok2 x2 q3 ws rs2 => ?_⟩
    exact q3 A2 rfl ok2 (Ext.refl A2) _ (Reps.append (rs.ext ok1 x2 _ _) rs2)
def LINE : Nat := 16777216
theorem line_eq : sizeLine = LINE := sizeLine_eq
def mTup (ds : List D) : M D := fun S => if ds.length ≤ LINE then .ok (.tup ds) S else .bad
def mLst (ds : List D) : M D := fun S => if ds.length ≤ LINE then .ok (.lst ds) S else .bad
def mCel (ds : List D) : M D := fun S => if ds.length ≤ LINE then .ok (.cel S.length) (S ++ [some ds]) else .bad
theorem fin_if {K : PySem.W.Frag} {mg : Str → Option Value} {T : List NdefX.NTab} {A : AS} {c : Prop} [Decidable c] {r : Res D} {Q : VK} (h : Fin1 K mg T A (if c then r else .bad) Q) : c ∧ Fin1 K mg T A r Q := by
  by_cases z : c
  · rw [if_pos z] at h; exact ⟨z, h⟩
  · rw [if_neg z] at h; exact h.elim
/-- a tuple object just laid -/
theorem laid_tup {pins : List (Addr × Obj)} {σ : L2.St} {H : Hp} {s : Shared} {vs : List V} {us : List Value} (I : Inv X pins σ H s) (z : vs.length ≤ sizeLine) (r : Vals vs us) :
    Inv X pins σ (upd H s.heap.objs.size (.frz { cls := .type "tuple", data := .seq us.toArray } (.tup vs))) { s with heap := s.heap.push { cls := .type "tuple", data := .seq us.toArray } } :=
  I.laid (t' := s.toks) (fun _ _ e => Heap.get?_push_of_some _ e) (Nat.le_refl _) ⟨Heap.get?_push_size _ rfl, z, us, r, IsTup.new _ _⟩
theorem ev_tup {x1 : Nat} (hs : AV T X es fs) : EV T X (.Tuple es x1 pos) (eCall mTup fs) := by
  refine ⟨fun pins s σ H Q I h => ?_⟩
  obtain ⟨A, en, rfl, ok, re, q⟩ := h
  have step : tA X.K X.mg T fs σ A.H fun vs H1 => vs.length ≤ sizeLine ∧ ∀ (p : Addr) (ob : Obj), H1 p = none → ob.dict = none → Q (.ref p) (upd H1 p (.frz ob (.tup vs))) := by
    refine ⟨A, en, rfl, ok, re, (Aft.bind q).mono fun ds A1 ok1 x1 q1 vs rs => ?_⟩
    obtain ⟨h1, h2⟩ := fin_if q1
    exact ⟨by rw [← rs.length, line_eq]; exact h1, fun p ob hp hd => Aft.tup ok1 h2 rs hp hd⟩
  refine wpAny_Tuple_spliced (thn (hs.run pos pins s σ A.H _ I step) fun us s1 h1 => ?_)
  obtain ⟨xs, H1, I1, r, z, q⟩ := h1
  exact ⟨by rw [← r.length]; exact z, .ref s1.heap.objs.size, _, laid_tup I1 z r, rfl, q _ _ (I1.hok.fresh (Nat.le_refl _)) rfl⟩
theorem ev_lst (hs : AV T X es fs) : EV T X (.List es pos) (eCall mLst fs) := by
  refine pe_imp (pe_lst hs) ?_
  rintro σ H Q ⟨A, en, rfl, ok, re, q⟩
  refine ⟨A, en, rfl, ok, re, (Aft.bind q).mono fun ds A1 ok1 x1 q1 vs rs => ?_⟩
  obtain ⟨h1, h2⟩ := fin_if q1
  exact ⟨by rw [← rs.length, line_eq]; exact h1, fun p hp => Aft.lst ok1 h2 rs hp⟩
/-- a list that will be changed -/
theorem ev_lstC (hs : AV T X es fs) : EV T X (.List es pos) (eCall mCel fs) := by
  refine pe_imp (pe_lst hs) ?_
  rintro σ H Q ⟨A, en, rfl, ok, re, q⟩
  refine ⟨A, en, rfl, ok, re, (Aft.bind q).mono fun ds A1 ok1 x1 q1 vs rs => ?_⟩
  obtain ⟨h1, h2⟩ := fin_if q1
  exact ⟨by rw [← rs.length, line_eq]; exact h1, fun p hp => Aft.cel ok1 h2 rs hp⟩
/-! ### calls -/
theorem call_of {K : PySem.W.Frag} {mg : Str → Option Value} {T : List NdefX.NTab} {m : List D → M D} {σ : L2.St} {H : Hp} {Q : VK} (h : tE K mg T (eCall m fs) σ H Q) : tA K mg T fs σ H fun vs H1 => rL K mg T m vs H1 Q := by
  obtain ⟨A, en, rfl, ok, re, q⟩ := h
  exact ⟨A, en, rfl, ok, re, (Aft.bind q).mono fun ds A1 ok1 x1 q1 vs rs => ⟨A1, ds, rfl, ok1, rs, q1⟩⟩
theorem ev_bi {x : Str} {id : String} {m : List D → M D} (hc : CallR X (.builtin id) (rL X.K X.mg T m)) (hg : Gl X x) (hm : X.mg x = none) (hv : bootBuiltins x = some (.builtin id)) (ha : AV T X (e :: es) fs) (hn : x ≠ "__name__" := by decide) (hdb : (x == ("__debug__" : Str)) = false := by decide)
    (he : starEach (e :: es) X.env = (false, eval e X.env) :: starEach es X.env := by rfl) (hpl : (backTo pos (starEach es X.env)).any (·.1) = false := by rfl) : EV T X (.Call (.Name x p) (e :: es) [] pos) (eCall m fs) :=
  pe_imp (pe_callB hc hg hm hv ha hn hdb he hpl) fun σ H Q q => call_of q
theorem ev_ty {x : Str} {ty : String} {m : List D → M D} (hc : CallR X (.type ty) (rL X.K X.mg T m)) (hg : Gl X x) (hm : X.mg x = none) (hv : bootBuiltins x = some (.type ty)) (ha : AV T X (e :: es) fs) (hn : x ≠ "__name__" := by decide) (hdb : (x == ("__debug__" : Str)) = false := by decide)
    (he : starEach (e :: es) X.env = (false, eval e X.env) :: starEach es X.env := by rfl) (hpl : (backTo pos (starEach es X.env)).any (·.1) = false := by rfl) : EV T X (.Call (.Name x p) (e :: es) [] pos) (eCall m fs) :=
  pe_imp (pe_callTy hc hg hm hv ha hn hdb he hpl) fun σ H Q q => call_of q
end
/-! ### defs -/
def mArgs (n : Nat) (F : List D → M D) : List D → M D := fun ds S => if ds.length = n then F ds S else .bad
/-- room, and no repr under way -/
structure RoomG (k : Nat) (A : Around) : Prop where
  r : Room k A
  g : A.guards = some []
theorem RoomG.less {j k : Nat} {A : Around} (h : RoomG k A) (l : j ≤ k) : RoomG j A := ⟨h.r.mono l, h.g⟩
theorem RoomG.deeper {k : Nat} {A : Around} (h : RoomG (k + 1) A) (env : Env) : RoomG k (A.deeper env) := ⟨h.r.deeper env, h.g⟩
theorem RoomG.units {k : Nat} {A : Around} (h : RoomG k A) : A.units + 64 < cLine := h.r.units
theorem RoomG.depth {k : Nat} {A : Around} (h : RoomG k A) : A.depth < recursionLimit := h.r.depth
theorem RoomG.hd {k : Nat} {A : Around} (h : RoomG k A) : A.handled = none := h.r.hd
/-- the function at f, with the parameters ps, means F -/
structure FnG (P : Program) (w : World) (K : PySem.W.Frag) (mg : Str → Option Value) (base : Heap) (T : List NdefX.NTab) (k : Nat) (f : Addr) (fd : FuncData) (ps : List Str) (F : List D → M D) : Prop where
  run : ∀ (A : Around) (outer : List Env) (s : Shared) (H : Hp) (args : Args) (us : List Value) (vs : List V) (Q : VK), RoomG k A → Env0 P w K mg base A outer s H → BindsTo s fd args (ps.zip us) → Vals vs us → rL K mg T (mArgs ps.length F) vs H Q →
    codeAny (model P w) A (.call (.ref f) args) (CR CX0 outer P w H s Q fun _ _ _ => False) s
theorem FnG.mono {P : Program} {w : World} {K : PySem.W.Frag} {mg : Str → Option Value} {base : Heap} {T : List NdefX.NTab} {j k : Nat} {f : Addr} {fd : FuncData} {ps : List Str} {F : List D → M D} (G : FnG P w K mg base T j f fd ps F) (h : j ≤ k) : FnG P w K mg base T k f fd ps F :=
  ⟨fun A outer s H args us vs Q hr => G.run A outer s H args us vs Q (hr.less h)⟩
theorem rL_len {K : PySem.W.Frag} {mg : Str → Option Value} {T : List NdefX.NTab} {n : Nat} {F : List D → M D} {vs : List V} {H : Hp} {Q : VK} (h : rL K mg T (mArgs n F) vs H Q) : vs.length = n := by
  obtain ⟨A, ds, rfl, ok, rs, q⟩ := h
  rw [← rs.length]
  exact (fin_if q).1
section
variable {T : List NdefX.NTab} {X : Cx} {e : Expr} {es : List Expr} {pos p : Pos} {fs : DEnv → M (List D)}
theorem call_end {pins : List (Addr × Obj)} {σ : L2.St} {H : Hp} {s : Shared} {Q : VK} {fa : Addr} {args : Args} (I : Inv X pins σ H s) (h : codeAny (model X.prog X.w) X.A (.call (.ref fa) args) (CR CX0 X.stack X.prog X.w H s Q fun _ _ _ => False) s) :
    codeAny (model X.prog X.w) X.A (.call (.ref fa) args) (fun r s' => match r with
      | .ok (.ret u) => EP X pins σ Q u s'
      | _ => False) s := codeAny_mono h fun z s' hq => by
  cases z with
  | error e => exact (show False from hq)
  | ok fl => cases fl with
    | ret u => exact I.after hq
    | _ => exact hq
theorem call_ret {pins : List (Addr × Obj)} {σ : L2.St} {H : Hp} {s : Shared} {Q : VK} {fa : Addr} {us : List Value} {kw : List (Str × Value)} (I : Inv X pins σ H s) (h : codeAny (model X.prog X.w) X.A (.call (.ref fa) ⟨us, kw⟩) (CR CX0 X.stack X.prog X.w H s Q fun _ _ _ => False) s) :
    wpAny (model X.prog X.w) X.A (call (.ref fa) us kw) (EP X pins σ Q) X.xe s := wpAny_call (codeAny_mono (call_end I h) fun z s' hq => by
  cases z with
  | error e => exact hq.elim
  | ok fl => cases fl with
    | ret u => exact hq
    | _ => exact hq.elim)
theorem ev_call {x : Str} {k : Nat} {fa : Addr} {fd : FuncData} {ps : List Str} {F : List D → M D} (G : FnG X.prog X.w X.K X.mg X.base T k fa fd ps F) (hr : RoomG k X.A) (hg : Gl X x) (hm : X.mg x = some (.ref fa)) (hk : PySem.W.keepIn X.K (.ref fa) = true)
    (hb : Binds X.K fd ps []) (ha : AV T X (e :: es) fs) (hdb : (x == ("__debug__" : Str)) = false := by decide) (he : starEach (e :: es) X.env = (false, eval e X.env) :: starEach es X.env := by rfl)
    (hpl : (backTo pos (starEach es X.env)).any (·.1) = false := by rfl) : EV T X (.Call (.Name x p) (e :: es) [] pos) (eCall (mArgs ps.length F) fs) := by
  refine ⟨fun pins s σ H Q I h => ?_⟩
  refine wpAny_Call_Name_kw (ld_glob I hg hm (PySem.W.callWith_K (h₀ := X.base) I.ok.mod.kin hk (thn (ha.run pos pins s σ H _ I (call_of h)) fun us s1 ⟨vs, H1, I1, r, q⟩ => ⟨I1.kIn, call_ret I1 ?_⟩) he hpl) hdb)
  have hl : us.length = ps.length := by rw [← r.length]; exact rL_len q
  have hb1 := hb s1 us I1.kIn (by rw [List.append_nil]; exact hl)
  rw [List.append_nil] at hb1
  exact G.run X.A X.stack s1 H1 _ us vs Q hr I1.env0 hb1 r q
theorem ev_callK {x : Str} {k : Nat} {fa : Addr} {fd : FuncData} {ps ks : List Str} {kws : List Keyword} {fk : DEnv → M (List D)} {F : List D → M D} {g : List Value → List Value → List Value} {gV : List V → List V → List V} {gD : List D → List D → List D}
    (G : FnG X.prog X.w X.K X.mg X.base T k fa fd ps F) (hr : RoomG k X.A) (hg : Gl X x) (hm : X.mg x = some (.ref fa)) (hk : PySem.W.keepIn X.K (.ref fa) = true)
    (hb : KBinds X.K fd ps ks g gV) (ha : AV T X (e :: es) fs) (hkw : PK X kws (tA X.K X.mg T fk)) (hgd : ∀ A ds ks vs ws, Reps X.K X.mg A ds vs → Reps X.K X.mg A ks ws → Reps X.K X.mg A (gD ds ks) (gV vs ws))
    (hall : (backToKw pos (keywordEach kws X.env)).all (·.1.isSome) = true := by rfl) (hks : (backToKw pos (keywordEach kws X.env)).filterMap (·.1) = ks := by rfl)
    (hdb : (x == ("__debug__" : Str)) = false := by decide) (he : starEach (e :: es) X.env = (false, eval e X.env) :: starEach es X.env := by rfl)
    (hpl : ((backTo pos (starEach (e :: es) X.env)).any (·.1) || (backToKw pos (keywordEach kws X.env)).any (·.1.isNone)) = false := by rfl) :
    EV T X (.Call (.Name x p) (e :: es) kws pos) (fun en => M.bind (fs en) fun ds => M.bind (fk en) fun ks => mArgs ps.length F (gD ds ks)) := by
  refine ⟨fun pins s σ H Q I h => ?_⟩
  obtain ⟨A, en, rfl, ok, re, q⟩ := h
  refine wpAny_Call_Name_kw (ld_glob I hg hm (PySem.W.callWith_KW (h₀ := X.base) I.ok.mod.kin hk hall (thn (ha.run pos pins s σ A.H (fun vs H1 => ∃ A1 ds, A1.H = H1 ∧ Ok X.K X.mg T A1 ∧ REnv X.K X.mg A1 en σ ∧ Reps X.K X.mg A1 ds vs ∧ Fin1 X.K X.mg T A1 (M.bind (fk en) (fun ks => mArgs ps.length F (gD ds ks)) A1.S) Q) I ⟨A, en, rfl, ok, re, ?_⟩) fun us s1 ⟨vs, H1, I1, r, A1, ds, e1, ok1, re1, r1, q1⟩ => ?_) hpl he) hdb)
  · exact (Aft.bind q).mono fun ds A1 ok1 x1 q1 vs rs => ⟨A1, ds, rfl, ok1, re.ext ok x1, rs, q1⟩
  · subst e1
    refine thn (hkw.run pos pins s1 σ A1.H (fun zs H2 => ∃ A2 ks, A2.H = H2 ∧ Ok X.K X.mg T A2 ∧ Reps X.K X.mg A2 ds vs ∧ Reps X.K X.mg A2 ks zs ∧ Fin1 X.K X.mg T A2 (mArgs ps.length F (gD ds ks) A2.S) Q) I1 ⟨A1, en, rfl, ok1, re1, ?_⟩) fun ws s2 ⟨zs, H2, I2, rz, A2, ks', e2, ok2, r2, r3, q2⟩ => ⟨I2.kIn, ?_⟩
    · exact (Aft.bind q1).mono fun ks A2 ok2 x2 q2 ws rs => ⟨A2, ks, rfl, ok2, r1.ext ok1 x2, rs, q2⟩
    · subst e2
      rw [hks]
      refine call_ret I2 ?_
      have hrel := hb.rel r rz
      have q3 : rL X.K X.mg T (mArgs ps.length F) (gV vs zs) A2.H Q := ⟨A2, _, rfl, ok2, hgd A2 _ _ _ _ r2 r3, q2⟩
      have hl : (g us ws).length = ps.length := by rw [← hrel.length]; exact rL_len q3
      exact G.run X.A X.stack s2 A2.H _ _ _ Q hr I2.env0 (hb.to s2 us ws I2.kIn hl) hrel q3
end
end VL
/-! VL3: operators, comparisons, subscripts, built-in calls. -/
namespace VL
open PySem PySem.Spec PyProof.Rows L2
/-! ### data as the model's own data -/
mutual
def D.py : D → Option PyData
  | .non => some .none
  | .bl b => some (.bool b)
  | .int i => some (.int i)
  | .str x => some (.str x)
  | .tup ds => (pys ds).map .tuple
  | .wtup ds => (pys ds).map .tuple
  | .lst ds => (pys ds).map .list
  | .fro ds => (pys ds).map .list
  | .cel _ => none
  | .glo _ => none
  | .ty _ => none
  | .lam _ _ => none
def pys : List D → Option (List PyData)
  | [] => some []
  | d :: ds => match d.py, pys ds with
    | some p, some ps => some (p :: ps)
    | _, _ => none
end
def pyOf (S : Sto) : D → Option PyData
  | .cel n => match (S[n]?).join with
    | some ds => (pys ds).map .list
    | none => none
  | d => d.py
section
variable {K : PySem.W.Frag} {mg : Str → Option Value} {T : List NdefX.NTab} {A A' A1 A2 : AS}
theorem lstH_sq {a : Addr} {vs : List V} (h : (∃ o, A.H a = some (.frz o (.lst vs))) ∨ ∃ (o : Obj) (its : Array Value) (n : Nat), K.lookup a = some o ∧ o.cls = .type "list" ∧ o.dict = none ∧ o.data = .seq its n ∧ its.size ≤ sizeLine ∧ Vals vs its.toList) : SqL K A.H a vs := by
  rcases h with ⟨o, h⟩ | h
  · exact .inl (.inr ⟨o, h⟩)
  · exact .inr h
mutual
theorem py_dp : ∀ (d : D) (v : V) (p : PyData), d.py = some p → Rep K mg A d v → Dp K A.H v p ∧ p.plain = true
  | .non, v, p, e, r => by simp only [D.py, Option.some.injEq, Rep] at e r; subst e; subst r; exact ⟨.non, rfl⟩
  | .bl b, v, p, e, r => by simp only [D.py, Option.some.injEq, Rep] at e r; subst e; subst r; exact ⟨.bl b, rfl⟩
  | .int i, v, p, e, r => by simp only [D.py, Option.some.injEq, Rep] at e r; subst e; subst r; exact ⟨.int i, rfl⟩
  | .str x, v, p, e, r => by simp only [D.py, Option.some.injEq, Rep] at e r; subst e; subst r; exact ⟨.str x, rfl⟩
  | .tup ds, v, p, e, r => by
    simp only [D.py, Option.map_eq_some_iff, Rep] at e r
    obtain ⟨ps, e1, rfl⟩ := e
    obtain ⟨a, vs, rfl, h1, h2⟩ := r
    obtain ⟨x, y⟩ := pys_dp ds vs ps e1 h2
    exact ⟨.tup h1.sq x, by simpa [PyData.plain] using y⟩
  | .wtup ds, v, p, e, r => by
    simp only [D.py, Option.map_eq_some_iff, Rep] at e r
    obtain ⟨ps, e1, rfl⟩ := e
    obtain ⟨a, vs, rfl, h1, h2⟩ := r
    obtain ⟨x, y⟩ := pys_dp ds vs ps e1 h2
    exact ⟨.tup h1 x, by simpa [PyData.plain] using y⟩
  | .lst ds, v, p, e, r => by
    simp only [D.py, Option.map_eq_some_iff, Rep] at e r
    obtain ⟨ps, e1, rfl⟩ := e
    obtain ⟨a, vs, rfl, h1, _, _, h2⟩ := r
    obtain ⟨x, y⟩ := pys_dp ds vs ps e1 h2
    exact ⟨.lst (.inl (.inl h1)) x, by simpa [PyData.plain] using y⟩
  | .fro ds, v, p, e, r => by
    simp only [D.py, Option.map_eq_some_iff, Rep] at e r
    obtain ⟨ps, e1, rfl⟩ := e
    obtain ⟨a, vs, rfl, h1, h2⟩ := r
    obtain ⟨x, y⟩ := pys_dp ds vs ps e1 h2
    exact ⟨.lst (lstH_sq h1) x, by simpa [PyData.plain] using y⟩
  | .cel _, v, p, e, r => by simp only [D.py] at e; cases e
  | .glo _, v, p, e, r => by simp only [D.py] at e; cases e
  | .ty _, v, p, e, r => by simp only [D.py] at e; cases e
  | .lam _ _, v, p, e, r => by simp only [D.py] at e; cases e
theorem pys_dp : ∀ (ds : List D) (vs : List V) (ps : List PyData), pys ds = some ps → Reps K mg A ds vs → DpAll K A.H vs ps ∧ PyData.plainAll ps = true
  | [], vs, ps, e, r => by simp only [pys, Option.some.injEq, Reps] at e r; subst e; subst r; exact ⟨.nil, rfl⟩
  | d :: ds, vs, ps, e, r => by
    simp only [pys, Reps] at e r
    obtain ⟨v, t, rfl, r1, r2⟩ := r
    cases e1 : d.py with
    | none => rw [e1] at e; cases e
    | some p =>
      cases e2 : pys ds with
      | none => rw [e1, e2] at e; cases e
      | some qs =>
        rw [e1, e2] at e
        cases e
        obtain ⟨x1, y1⟩ := py_dp d v p e1 r1
        obtain ⟨x2, y2⟩ := pys_dp ds t qs e2 r2
        exact ⟨.cons x1 x2, by simp [PyData.plainAll, y1, y2]⟩
end
theorem pyOf_dp (ok : Ok K mg T A) {d : D} {v : V} {p : PyData} (e : pyOf A.S d = some p) (r : Rep K mg A d v) : Dp K A.H v p ∧ p.plain = true := by
  cases d with
  | cel n =>
    have e : (match (A.S[n]?).join with
      | some ds => (pys ds).map .list
      | none => none) = some p := e
    cases q : (A.S[n]?).join with
    | none => rw [q] at e; cases e
    | some ds =>
      rw [q] at e
      obtain ⟨ps, e1, rfl⟩ := Option.map_eq_some_iff.mp e
      obtain ⟨a, vs, rfl, h1, h2⟩ := listOf_ok ok r (show listOf A.S (.cel n) = some ds from q)
      obtain ⟨x, y⟩ := pys_dp ds vs ps e1 h2
      exact ⟨.lst h1 x, by simpa [PyData.plain] using y⟩
  | _ => exact py_dp _ v p e r
end
/-! ### comparisons -/
def mEq (d e : D) : M D := fun S => match pyOf S d, pyOf S e with
  | some p, some q => if min p.depth q.depth ≤ 60 then .ok (.bl (PyData.eqv p q)) S else .bad
  | _, _ => .bad
def mNe (d e : D) : M D := fun S => match pyOf S d, pyOf S e with
  | some p, some q => if min p.depth q.depth ≤ 60 then .ok (.bl (!PyData.eqv p q)) S else .bad
  | _, _ => .bad
def mIn (neg : Bool) (d e : D) : M D := fun S => match e with
  | .str z => match d with
    | .str x => match x.cps.toList with
      | [c] => .ok (.bl (if neg = true then !decide (c ∈ z.cps.toList) else decide (c ∈ z.cps.toList))) S
      | _ => .bad
    | _ => .bad
  | e => match pyOf S d, pyOf S e with
    | some p, some (.list ps) => if min (PyData.depthAll ps) p.depth ≤ 60 then .ok (.bl (if neg = true then !ps.any fun y => PyData.eqv y p else ps.any fun y => PyData.eqv y p)) S else .bad
    | some p, some (.tuple ps) => if min (PyData.depthAll ps) p.depth ≤ 60 then .ok (.bl (if neg = true then !ps.any fun y => PyData.eqv y p else ps.any fun y => PyData.eqv y p)) S else .bad
    | _, _ => .bad
def mCmp (p : Int → Int → Bool) (q : List Nat → List Nat → Bool) (d e : D) : M D := fun S => match d, e with
  | .int i, .int j => .ok (.bl (p i j)) S
  | .str x, .str y => .ok (.bl (q x.cps.toList y.cps.toList)) S
  | _, _ => .bad
def mLt := mCmp (fun i j => decide (i < j)) (fun x y => decide (x < y))
def mLe := mCmp (fun i j => decide (i ≤ j)) (fun x y => !decide (y < x))
def mGt := mCmp (fun i j => decide (j < i)) (fun x y => decide (y < x))
def mGe := mCmp (fun i j => decide (j ≤ i)) (fun x y => !decide (x < y))
def D.isNon : D → Bool
  | .non => true
  | _ => false
def mIs (neg : Bool) (d e : D) : M D := fun S => match e with
  | .non => .ok (.bl (if neg = true then !d.isNon else d.isNon)) S
  | _ => .bad
theorem isNon_rep {K : PySem.W.Frag} {mg : Str → Option Value} {A : AS} {d : D} {x : V} (r : Rep K mg A d x) : decide (x = .non) = d.isNon := by
  cases d <;> simp only [Rep] at r
  case non => subst r; rfl
  case bl => subst r; rfl
  case int => subst r; rfl
  case str => subst r; rfl
  case tup => obtain ⟨a, vs, rfl, _⟩ := r; rfl
  case wtup => obtain ⟨a, vs, rfl, _⟩ := r; rfl
  case lst => obtain ⟨a, vs, rfl, _⟩ := r; rfl
  case fro => obtain ⟨a, vs, rfl, _⟩ := r; rfl
  case cel => obtain ⟨a, rfl, _⟩ := r; rfl
  case glo => obtain ⟨a, rfl, _⟩ := r; rfl
  case ty => subst r; rfl
  case lam => obtain ⟨rfl, _⟩ := r; rfl
section
variable {T : List NdefX.NTab} {X : Cx}
theorem str_one {x : Str} {c : Nat} (h : x.cps.toList = [c]) : x = ⟨#[c]⟩ := by
  obtain ⟨a⟩ := x
  have : a = #[c] := by
    apply Array.ext'
    simpa using h
  rw [this]
theorem op_mEq (hu : X.A.units + 64 < cLine) : OpR X (compareOp .Eq) (r2 X.K X.mg T mEq) := by
  intro pins s σ H x y v u Q I rx ry h
  obtain ⟨A, d, e, rfl, ok, r1, r2, q⟩ := h
  unfold mEq at q
  cases e1 : pyOf A.S d with
  | none => rw [e1] at q; exact q.elim
  | some p =>
    cases e2 : pyOf A.S e with
    | none => rw [e1, e2] at q; exact q.elim
    | some p2 =>
      rw [e1, e2] at q
      obtain ⟨c, q⟩ := fin_if q
      obtain ⟨d1, f1⟩ := pyOf_dp ok e1 r1
      obtain ⟨d2, f2⟩ := pyOf_dp ok e2 r2
      obtain ⟨as, h1⟩ := Dp.reads I p x v d1 rx
      obtain ⟨bs, h2⟩ := Dp.reads I p2 y u d2 ry
      exact SeqAt.eq_plain h1 h2 f1 f2 (by omega) ⟨.bl _, A.H, I, rfl, Aft.val ok q (by simp only [Rep])⟩
theorem op_mNe (hu : X.A.units + 64 < cLine) : OpR X (compareOp .NotEq) (r2 X.K X.mg T mNe) := by
  intro pins s σ H x y v u Q I rx ry h
  obtain ⟨A, d, e, rfl, ok, r1, r2, q⟩ := h
  unfold mNe at q
  cases e1 : pyOf A.S d with
  | none => rw [e1] at q; exact q.elim
  | some p =>
    cases e2 : pyOf A.S e with
    | none => rw [e1, e2] at q; exact q.elim
    | some p2 =>
      rw [e1, e2] at q
      obtain ⟨c, q⟩ := fin_if q
      obtain ⟨d1, f1⟩ := pyOf_dp ok e1 r1
      obtain ⟨d2, f2⟩ := pyOf_dp ok e2 r2
      obtain ⟨as, h1⟩ := Dp.reads I p x v d1 rx
      obtain ⟨bs, h2⟩ := Dp.reads I p2 y u d2 ry
      exact SeqAt.ne_plain h1 h2 f1 f2 (by omega) ⟨.bl _, A.H, I, rfl, Aft.val ok q (by simp only [Rep])⟩
theorem in_core {neg : Bool} {A : AS} {d e : D} {Q : VK} (h : Fin1 X.K X.mg T A (mIn neg d e A.S) Q) (ok : Ok X.K X.mg T A) :
    (∃ x z c, d = .str x ∧ e = .str z ∧ x = ⟨#[c]⟩ ∧ Q (.bl (if neg = true then !decide (c ∈ z.cps.toList) else decide (c ∈ z.cps.toList))) A.H) ∨
    (∃ p ps, pyOf A.S d = some p ∧ (pyOf A.S e = some (.list ps) ∨ pyOf A.S e = some (.tuple ps)) ∧ min (PyData.depthAll ps) p.depth ≤ 60 ∧ Q (.bl (if neg = true then !ps.any fun y => PyData.eqv y p else ps.any fun y => PyData.eqv y p)) A.H) := by
  have fin : ∀ {k : Bool}, Fin1 X.K X.mg T A (.ok (.bl k) A.S) Q → Q (.bl k) A.H := fun q => Aft.val ok q (by simp only [Rep])
  have data : Fin1 X.K X.mg T A (match pyOf A.S d, pyOf A.S e with
    | some p, some (.list ps) => if min (PyData.depthAll ps) p.depth ≤ 60 then .ok (.bl (if neg = true then !ps.any fun y => PyData.eqv y p else ps.any fun y => PyData.eqv y p)) A.S else .bad
    | some p, some (.tuple ps) => if min (PyData.depthAll ps) p.depth ≤ 60 then .ok (.bl (if neg = true then !ps.any fun y => PyData.eqv y p else ps.any fun y => PyData.eqv y p)) A.S else .bad
    | _, _ => .bad) Q → (∃ p ps, pyOf A.S d = some p ∧ (pyOf A.S e = some (.list ps) ∨ pyOf A.S e = some (.tuple ps)) ∧ min (PyData.depthAll ps) p.depth ≤ 60 ∧ Q (.bl (if neg = true then !ps.any fun y => PyData.eqv y p else ps.any fun y => PyData.eqv y p)) A.H) := by
    intro q
    cases e1 : pyOf A.S d with
    | none => rw [e1] at q; exact q.elim
    | some p =>
      cases e2 : pyOf A.S e with
      | none => rw [e1, e2] at q; exact q.elim
      | some p2 =>
        rw [e1, e2] at q
        cases p2 with
        | list ps => obtain ⟨c, q⟩ := fin_if q; exact ⟨p, ps, rfl, .inl rfl, c, fin q⟩
        | tuple ps => obtain ⟨c, q⟩ := fin_if q; exact ⟨p, ps, rfl, .inr rfl, c, fin q⟩
        | _ => exact q.elim
  cases e with
  | str z =>
    left
    cases d with
    | str x =>
      simp only [mIn] at h
      cases hx : x.cps.toList with
      | nil => rw [hx] at h; exact h.elim
      | cons c r =>
        cases r with
        | nil => rw [hx] at h; exact ⟨x, z, c, rfl, rfl, str_one hx, fin h⟩
        | cons _ _ => rw [hx] at h; exact h.elim
    | _ => exact h.elim
  | _ => exact .inr (data h)
theorem op_mIn (hu : X.A.units + 64 < cLine) : OpR X (compareOp .In) (r2 X.K X.mg T (mIn false)) := by
  intro pins s σ H x y v u Q I rx ry h
  obtain ⟨A, d, e, rfl, ok, r1, r2, q⟩ := h
  rcases in_core q ok with ⟨sx, z, c, rfl, rfl, ex, q⟩ | ⟨p, ps, e1, e2, c, q⟩
  · simp only [Rep] at r1 r2
    exact op_in_sign pins s σ A.H x y v u Q I rx ry ⟨c, z, by rw [r1, ex], r2, q⟩
  · obtain ⟨d1, f1⟩ := pyOf_dp ok e1 r1
    obtain ⟨as, h1⟩ := Dp.reads I p x v d1 rx
    rcases e2 with e2 | e2
    · obtain ⟨d2, f2⟩ := pyOf_dp ok e2 r2
      obtain ⟨bs, h2⟩ := Dp.reads I _ y u d2 ry
      exact SeqAt.in_list_data h2 h1 (by simpa [PyData.plain] using f2) f1 (by omega) ⟨.bl _, A.H, I, rfl, q⟩
    · obtain ⟨d2, f2⟩ := pyOf_dp ok e2 r2
      obtain ⟨bs, h2⟩ := Dp.reads I _ y u d2 ry
      exact SeqAt.in_tuple_data h2 h1 (by simpa [PyData.plain] using f2) f1 (by omega) ⟨.bl _, A.H, I, rfl, q⟩
theorem op_mNotIn (hu : X.A.units + 64 < cLine) : OpR X (compareOp .NotIn) (r2 X.K X.mg T (mIn true)) := by
  intro pins s σ H x y v u Q I rx ry h
  obtain ⟨A, d, e, rfl, ok, r1, r2, q⟩ := h
  rcases in_core q ok with ⟨sx, z, c, rfl, rfl, ex, q⟩ | ⟨p, ps, e1, e2, c, q⟩
  · simp only [Rep] at r1 r2
    exact op_notIn_sign pins s σ A.H x y v u Q I rx ry ⟨c, z, by rw [r1, ex], r2, q⟩
  · obtain ⟨d1, f1⟩ := pyOf_dp ok e1 r1
    obtain ⟨as, h1⟩ := Dp.reads I p x v d1 rx
    rcases e2 with e2 | e2
    · obtain ⟨d2, f2⟩ := pyOf_dp ok e2 r2
      obtain ⟨bs, h2⟩ := Dp.reads I _ y u d2 ry
      exact SeqAt.notIn_list_data h2 h1 (by simpa [PyData.plain] using f2) f1 (by omega) ⟨.bl _, A.H, I, rfl, q⟩
    · obtain ⟨d2, f2⟩ := pyOf_dp ok e2 r2
      obtain ⟨bs, h2⟩ := Dp.reads I _ y u d2 ry
      exact SeqAt.notIn_tuple_data h2 h1 (by simpa [PyData.plain] using f2) f1 (by omega) ⟨.bl _, A.H, I, rfl, q⟩
theorem cmp_core {K : PySem.W.Frag} {mg : Str → Option Value} {T : List NdefX.NTab} {p : Int → Int → Bool} {q : List Nat → List Nat → Bool} {x y : V} {H : Hp} {Q : VK} (h : r2 K mg T (mCmp p q) x y H Q) :
    (∃ i j, x = .int i ∧ y = .int j ∧ Q (.bl (p i j)) H) ∨ ∃ i j, x = .str i ∧ y = .str j ∧ Q (.bl (q i.cps.toList j.cps.toList)) H := by
  obtain ⟨A, d, e, rfl, ok, r1, r2, z⟩ := h
  cases d with
  | int i =>
    cases e with
    | int j => simp only [Rep] at r1 r2; exact .inl ⟨i, j, r1, r2, Aft.val ok z (by simp only [Rep])⟩
    | _ => exact z.elim
  | str i =>
    cases e with
    | str j => simp only [Rep] at r1 r2; exact .inr ⟨i, j, r1, r2, Aft.val ok z (by simp only [Rep])⟩
    | _ => exact z.elim
  | _ => exact z.elim
theorem op_mLt : OpR X (compareOp .Lt) (r2 X.K X.mg T mLt) := opr_imp (OpR.or op_lt op_lt_str) fun _ _ _ _ h => cmp_core h
theorem op_mLe : OpR X (compareOp .LtE) (r2 X.K X.mg T mLe) := opr_imp (OpR.or op_le op_le_str) fun _ _ _ _ h => cmp_core h
theorem op_mGt : OpR X (compareOp .Gt) (r2 X.K X.mg T mGt) := opr_imp (OpR.or op_gt op_gt_str) fun _ _ _ _ h => cmp_core h
theorem op_mGe : OpR X (compareOp .GtE) (r2 X.K X.mg T mGe) := opr_imp (OpR.or op_ge op_ge_str) fun _ _ _ _ h => cmp_core h
theorem op_mIs : OpR X (compareOp .Is) (r2 X.K X.mg T (mIs false)) := opr_imp op_isN fun x y H Q h => by
  obtain ⟨A, d, e, rfl, ok, r1, r2, q⟩ := h
  cases e with
  | non =>
    simp only [Rep] at r2
    rw [isNon_rep r1]
    exact ⟨r2, Aft.val ok q (by simp [Rep])⟩
  | _ => exact q.elim
theorem op_mIsNot : OpR X (compareOp .IsNot) (r2 X.K X.mg T (mIs true)) := opr_imp op_notN fun x y H Q h => by
  obtain ⟨A, d, e, rfl, ok, r1, r2, q⟩ := h
  cases e with
  | non =>
    simp only [Rep] at r2
    rw [isNon_rep r1]
    exact ⟨r2, Aft.val ok q (by simp [Rep])⟩
  | _ => exact q.elim
end
/-! ### numbers, gluing -/
def BIG : Nat := 2 ^ 600
def mI (C : Int → Int → Bool) (g : Int → Int → Int) (d e : D) : M D := fun S => match d, e with
  | .int i, .int j => if C i j = true then .ok (.int (g i j)) S else .bad
  | _, _ => .bad
def mSub := mI (fun _ _ => true) (fun i j => i - j)
def mMul := mI (fun i j => decide (i.natAbs < BIG) && decide (j.natAbs < BIG)) (fun i j => i * j)
def mMod := mI (fun _ j => decide (0 < j)) (fun i j => i % j)
def mFdiv := mI (fun _ j => decide (0 < j) && decide (j.natAbs < BIG)) (fun i j => i / j)
def mPow := mI (fun i j => decide (0 ≤ j) && decide (j ≤ 1000) && decide (i.natAbs < 2 ^ 64)) (fun i j => i ^ j.toNat)
def mAdd (d e : D) : M D := fun S => match d, e with
  | .int i, .int j => .ok (.int (i + j)) S
  | .str a, .str b => if a.length + b.length ≤ LINE then .ok (.str (a ++ b)) S else .bad
  | .tup a, .tup b => if a.length + b.length ≤ LINE then .ok (.tup (a ++ b)) S else .bad
  | d, e => match mutOf S d, mutOf S e with
    | some a, some b => if a.length + b.length ≤ LINE then .ok (.lst (a ++ b)) S else .bad
    | _, _ => .bad
def mNeg (d : D) : M D := fun S => match d with
  | .int i => .ok (.int (-i)) S
  | _ => .bad
section
variable {T : List NdefX.NTab} {X : Cx}
theorem mI_core {K : PySem.W.Frag} {mg : Str → Option Value} {T : List NdefX.NTab} {C : Int → Int → Bool} {g : Int → Int → Int} {x y : V} {H : Hp} {Q : VK} (h : r2 K mg T (mI C g) x y H Q) : ∃ i j, x = .int i ∧ y = .int j ∧ C i j = true ∧ Q (.int (g i j)) H := by
  obtain ⟨A, d, e, rfl, ok, r1, r2, z⟩ := h
  cases d with
  | int i =>
    cases e with
    | int j =>
      simp only [Rep] at r1 r2
      obtain ⟨c, z⟩ := fin_if z
      exact ⟨i, j, r1, r2, c, Aft.val ok z (by simp only [Rep])⟩
    | _ => exact z.elim
  | _ => exact z.elim
theorem op_mSub : OpR X (binaryOp .Sub) (r2 X.K X.mg T mSub) := opr_imp op_sub fun _ _ _ _ h => let ⟨i, j, a, b, _, q⟩ := mI_core h; ⟨i, j, a, b, q⟩
theorem op_mMul : OpR X (binaryOp .Mult) (r2 X.K X.mg T mMul) := opr_imp op_mulW fun _ _ _ _ h => by
  obtain ⟨i, j, a, b, c, q⟩ := mI_core h
  rw [Bool.and_eq_true] at c
  exact ⟨i, j, a, b, wide_mul (of_decide_eq_true c.1) (of_decide_eq_true c.2) (by decide) (by decide) (by decide), q⟩
theorem op_mMod : OpR X (binaryOp .Mod) (r2 X.K X.mg T mMod) := opr_imp op_mod fun _ _ _ _ h => by
  obtain ⟨i, j, a, b, c, q⟩ := mI_core h
  exact ⟨i, j, a, b, of_decide_eq_true c, q⟩
theorem op_mFdiv : OpR X (binaryOp .FloorDiv) (r2 X.K X.mg T mFdiv) := opr_imp op_fdivW fun _ _ _ _ h => by
  obtain ⟨i, j, a, b, c, q⟩ := mI_core h
  rw [Bool.and_eq_true] at c
  exact ⟨i, j, a, b, wide_div (of_decide_eq_true c.1) (of_decide_eq_true c.2) (by decide) (by decide), q⟩
theorem op_mPow : OpR X (binaryOp .Pow) (r2 X.K X.mg T mPow) := opr_imp op_pow fun _ _ _ _ h => by
  obtain ⟨i, j, a, b, c, q⟩ := mI_core h
  rw [Bool.and_eq_true, Bool.and_eq_true] at c
  have c1 := of_decide_eq_true c.1.1
  have c2 := of_decide_eq_true c.1.2
  exact ⟨i, j, a, b, ⟨c1, by omega, of_decide_eq_true c.2⟩, q⟩
theorem op_mNeg : UnR X (unaryOp .USub) (r1 X.K X.mg T mNeg) := fun pins s σ H x v Q I rx h => un_neg pins s σ H x v Q I rx (by
  obtain ⟨A, d, rfl, ok, r1, q⟩ := h
  cases d with
  | int i => simp only [Rep] at r1; exact ⟨i, r1, Aft.val ok q (by simp only [Rep])⟩
  | _ => exact q.elim)
/-- t + u, the new tuple laid with its object -/
theorem cat_tups {pins : List (Addr × Obj)} {s : Shared} {σ : L2.St} {A : AS} {a b : List D} {x y : V} {v u : Value} {Q : VK} (I : Inv X pins σ A.H s) (ok : Ok X.K X.mg T A) (rx : RelV x v) (ry : RelV y u) (r1 : Rep X.K X.mg A (.tup a) x) (r2 : Rep X.K X.mg A (.tup b) y) (hz : a.length + b.length ≤ LINE)
    (q : Fin1 X.K X.mg T A (.ok (.tup (a ++ b)) A.S) Q) : wpAny (model X.prog X.w) X.A (binaryOp .Add v u) (EP X pins σ Q) X.xe s := by
  have R1 := r1
  have R2 := r2
  simp only [Rep] at r1 r2
  obtain ⟨p1, vs1, rfl, t1, s1⟩ := r1
  obtain ⟨p2, vs2, rfl, t2, s2⟩ := r2
  cases rx
  cases ry
  obtain ⟨its1, e1, i1, _⟩ := I.tuple t1.sq
  obtain ⟨its2, e2, i2, _⟩ := I.tuple t2.sq
  have l1 := s1.length
  have l2 := s2.length
  have z1 := e1.length
  have z2 := e2.length
  by_cases h1 : a = []
  · subst h1
    have hv : its1 = [] := List.eq_nil_of_length_eq_zero (by simp at l1; omega)
    subst hv
    exact cat_tup0 i1 i2 ⟨.ref p2, A.H, I, rfl, Aft.val ok q R2⟩
  · refine HT.cat_tup i1 i2 (fun z => h1 (List.eq_nil_of_length_eq_zero (by rw [z, List.length_nil] at z1; omega))) (fun z => ?_) (fun z => ?_) (by rw [line_eq]; omega)
    · have hb : b = [] := List.eq_nil_of_length_eq_zero (by rw [z, List.length_nil] at z2; omega)
      subst hb
      rw [List.append_nil] at q
      exact ⟨.ref p1, A.H, I, rfl, Aft.val ok q R1⟩
    · exact ⟨.ref s.heap.objs.size, _, laid_tup I (by rw [List.length_append, line_eq]; omega) (e1.append e2), rfl, Aft.tup ok q (s1.append s2) (I.hok.fresh (Nat.le_refl _)) rfl⟩
theorem op_mAdd : OpR X (binaryOp .Add) (r2 X.K X.mg T mAdd) := by
  intro pins s σ H x y v u Q I rx ry h
  obtain ⟨A, d, e, rfl, ok, r1, r2, q⟩ := h
  have lists : Fin1 X.K X.mg T A (match mutOf A.S d, mutOf A.S e with
    | some a, some b => if a.length + b.length ≤ LINE then .ok (.lst (a ++ b)) A.S else .bad
    | _, _ => .bad) Q → wpAny (model X.prog X.w) X.A (binaryOp .Add v u) (EP X pins σ Q) X.xe s := fun q => by
    cases e1 : mutOf A.S d with
    | none => rw [e1] at q; exact q.elim
    | some a =>
      cases e2 : mutOf A.S e with
      | none => rw [e1, e2] at q; exact q.elim
      | some b =>
        rw [e1, e2] at q
        obtain ⟨c, q⟩ := fin_if q
        obtain ⟨p1, vs1, f1, g1, k1⟩ := mutOf_ok ok r1 e1
        obtain ⟨p2, vs2, f2, g2, k2⟩ := mutOf_ok ok r2 e2
        exact op_cat pins s σ A.H x y v u Q I rx ry ⟨p1, p2, vs1, vs2, f1, f2, g1, g2, by rw [← k1.length, ← k2.length, line_eq]; exact c, fun p hp => Aft.lst ok q (k1.append k2) hp⟩
  cases d with
  | int i =>
    cases e with
    | int j => simp only [Rep] at r1 r2; exact op_add pins s σ A.H x y v u Q I rx ry ⟨i, j, r1, r2, Aft.val ok q (by simp only [Rep])⟩
    | _ => exact lists q
  | str i =>
    cases e with
    | str j =>
      simp only [Rep] at r1 r2
      obtain ⟨c, q⟩ := fin_if q
      exact op_add_str pins s σ A.H x y v u Q I rx ry ⟨i, j, r1, r2, by rw [line_eq]; exact c, Aft.val ok q (by simp only [Rep])⟩
    | _ => exact lists q
  | tup a =>
    cases e with
    | tup b => obtain ⟨c, q⟩ := fin_if q; exact cat_tups I ok rx ry r1 r2 c q
    | _ => exact lists q
  | _ => exact lists q
end
/-! ### subscripts -/
def mIx (d i : D) : M D := fun S => match i with
  | .int k => match d with
    | .str z => match atI z.cps.toList k with
      | some c => if z.length ≤ LINE then .ok (.str ⟨#[c]⟩) S else .bad
      | none => .bad
    | d => match seqOf S d with
      | some ds => match atI ds k with
        | some x => .ok x S
        | none => .bad
      | none => .bad
  | _ => .bad
theorem reps_atI {K : PySem.W.Frag} {mg : Str → Option Value} {A : AS} {ds : List D} {vs : List V} {i : Int} {x : D} (r : Reps K mg A ds vs) (h : atI ds i = some x) : ∃ v, atI vs i = some v ∧ Rep K mg A x v := by
  unfold atI at h ⊢
  rw [← r.length]
  cases e : ixN ds.length i with
  | none => rw [e] at h; cases h
  | some j =>
    rw [e] at h
    exact r.get h
theorem ix_m {T : List NdefX.NTab} {X : Cx} : IxR X (r2 X.K X.mg T mIx) := by
  intro value slice pins s σ H x y v u Q I rx ry h hs
  refine ix_seq value slice pins s σ H x y v u Q I rx ry ?_ hs
  obtain ⟨A, d, e, rfl, ok, r1, r2, q⟩ := h
  cases e with
  | int k =>
    simp only [Rep] at r2
    have sq : Fin1 X.K X.mg T A (match seqOf A.S d with
      | some ds => match atI ds k with
        | some x => .ok x A.S
        | none => .bad
      | none => .bad) Q → rIx X.K x y A.H Q := fun q => by
      cases e1 : seqOf A.S d with
      | none => rw [e1] at q; exact q.elim
      | some ds =>
        rw [e1] at q
        obtain ⟨a, vs, f1, f2, f3⟩ := seqOf_ok ok r1 e1
        cases e2 : atI ds k with
        | none => simp only [e2] at q; exact q.elim
        | some z =>
          simp only [e2] at q
          obtain ⟨w, g1, g2⟩ := reps_atI f3 e2
          rcases f2 with f2 | f2
          · exact .inl ⟨a, vs, k, w, f1, r2, f2, g1, Aft.val ok q g2⟩
          · exact .inr (.inl ⟨a, vs, k, w, f1, r2, f2, g1, Aft.val ok q g2⟩)
    cases d with
    | str z =>
      simp only [mIx] at q
      cases e2 : atI z.cps.toList k with
      | none => simp only [e2] at q; exact q.elim
      | some c =>
        simp only [e2] at q
        obtain ⟨hz, q⟩ := fin_if q
        simp only [Rep] at r1
        exact .inr (.inr ⟨z, k, c, r1, r2, by rw [line_eq]; exact hz, e2, Aft.val ok q (by simp only [Rep])⟩)
    | _ => exact sq q
  | _ => exact q.elim
theorem ev_sub {T : List NdefX.NTab} {X : Cx} {a b : Expr} {pos : Pos} {f g : DEnv → M D} (ha : EV T X a f) (hb : EV T X b g) (hs : PlainIx b := by exact fun _ _ => rfl) : EV T X (.Subscript a b pos) (e2 mIx f g) := ev_ix ix_m ha hb hs
/-! ### slices -/
def cutD (xs : List D) (lo hi : Option Int) : List D := (xs.drop (HT.sIx xs.length 0 lo)).take (HT.sIx xs.length xs.length hi - HT.sIx xs.length 0 lo)
def mSl (d : D) (lo hi : Option Int) : M D := fun S => match d with
  | .tup ds => .ok (.tup (cutD ds lo hi)) S
  | .str z => if z.length ≤ LINE then .ok (.str (cutS z lo hi)) S else .bad
  | d => match listOf S d with
    | some ds => .ok (.lst (cutD ds lo hi)) S
    | none => .bad
def oNone : DEnv → M (Option Int) := fun _ S => .ok none S
def oSome (f : DEnv → M D) : DEnv → M (Option Int) := fun en => M.bind (f en) fun d S => match d with
  | .int i => .ok (some i) S
  | _ => .bad
def eSl (f : DEnv → M D) (l h : DEnv → M (Option Int)) : DEnv → M D := fun en => M.bind (f en) fun x => M.bind (l en) fun lo => M.bind (h en) fun hi => mSl x lo hi
def tO (K : PySem.W.Frag) (mg : Str → Option Value) (T : List NdefX.NTab) (f : DEnv → M (Option Int)) : TO := fun σ H Q => ∃ A en, A.H = H ∧ Ok K mg T A ∧ REnv K mg A en σ ∧ Aft K mg T A (f en A.S) fun o A' => Q o A'.H
abbrev OV (T : List NdefX.NTab) (X : Cx) (e : Option Expr) (f : DEnv → M (Option Int)) : Prop := PO X e (tO X.K X.mg T f)
section
variable {T : List NdefX.NTab} {X : Cx} {e : Expr} {lo hi : Option Expr} {f : DEnv → M D} {fl fh : DEnv → M (Option Int)} {pos p2 : Pos}
theorem po_imp {X : Cx} {e : Option Expr} {t t' : TO} (h : PO X e t) (i : ∀ σ H Q, t' σ H Q → t σ H Q) : PO X e t' := ⟨fun pins s σ H Q I q => h.run pins s σ H Q I (i _ _ _ q)⟩
theorem ov_none : OV T X none oNone := by
  refine po_imp po_none ?_
  rintro σ H Q ⟨A, en, rfl, ok, re, q⟩
  exact Aft.now ok q
theorem ov_some (ha : EV T X e f) : OV T X (some e) (oSome f) := by
  refine po_imp (po_some ha) ?_
  rintro σ H Q ⟨A, en, rfl, ok, re, q⟩
  refine ⟨A, en, rfl, ok, re, (Aft.bind q).mono fun d A1 ok1 x1 q1 v rv => ?_⟩
  cases d with
  | int i => simp only [Rep] at rv; exact ⟨i, rv, Aft.now ok1 q1⟩
  | _ => exact q1.elim
def rSlD (K : PySem.W.Frag) (mg : Str → Option Value) (T : List NdefX.NTab) : V → Option Int → Option Int → Hp → VK → Prop := fun x lo hi H Q => ∃ A d, A.H = H ∧ Ok K mg T A ∧ Rep K mg A d x ∧ Fin1 K mg T A (mSl d lo hi A.S) Q
theorem reps_cut {K : PySem.W.Frag} {mg : Str → Option Value} {A : AS} {ds : List D} {vs : List V} (r : Reps K mg A ds vs) (lo hi : Option Int) : Reps K mg A (cutD ds lo hi) (cutV vs lo hi) := by
  unfold cutD cutV
  rw [r.length]
  exact (r.drop _).take _
theorem sl_m : SlR X (rSlD X.K X.mg T) := by
  intro pins s σ H x v vl vu lo hi sl Q I rx hs pl pu h
  obtain ⟨A, d, rfl, ok, r, q⟩ := h
  have lists : Fin1 X.K X.mg T A (match listOf A.S d with
    | some ds => .ok (.lst (cutD ds lo hi)) A.S
    | none => .bad) Q → ∃ T id, typeLookup (.type T) "__getitem__" = pure (some (.builtin id)) ∧ s.TypeIs v T ∧ wpAny (model X.prog X.w) X.A (getItem v (.ref sl)) (EP X pins σ Q) X.xe s := fun q => by
    cases e1 : listOf A.S d with
    | none => rw [e1] at q; exact q.elim
    | some ds =>
      rw [e1] at q
      obtain ⟨a, vs, f1, f2, f3⟩ := listOf_ok ok r e1
      exact sl_list pins s σ A.H x v vl vu lo hi sl Q I rx hs pl pu ⟨a, vs, f1, f2, fun p hp => Aft.lst ok q (reps_cut f3 lo hi) hp⟩
  cases d with
  | tup ds =>
    have R := r
    simp only [Rep] at r
    obtain ⟨a, vs, rfl, t, rs⟩ := r
    cases rx
    obtain ⟨its, e1, ht, hz⟩ := I.tuple t.sq
    have hlen : its.toArray.size = vs.length := by rw [List.size_toArray]; exact e1.length.symm
    refine ⟨"tuple", _, PyProof.Rows.slot_tuple_getitem.lookup, ht.typeIs, ?_⟩
    by_cases hw : HT.sIx vs.length 0 lo = 0 ∧ HT.sIx vs.length vs.length hi = vs.length
    · refine getItem_tuple_whole ht hs pl pu (by rw [hlen]; exact hw) ⟨.ref a, A.H, I, rfl, ?_⟩
      have e : cutD ds lo hi = ds := by
        unfold cutD
        rw [rs.length, hw.1, hw.2, ← rs.length]
        simp
      simp only [mSl, e] at q
      exact Aft.val ok q R
    · refine HT.getItem_tuple_cut ht hs pl pu (by rw [hlen]; exact hw) ?_ (by rw [hlen]; exact hz)
      rw [hlen]
      exact ⟨.ref s.heap.objs.size, _, laid_tup I (Nat.le_trans (cutV_length vs lo hi) hz) ((e1.drop (HT.sIx vs.length 0 lo)).take (HT.sIx vs.length vs.length hi - HT.sIx vs.length 0 lo)), rfl, Aft.tup ok q (reps_cut rs lo hi) (I.hok.fresh (Nat.le_refl _)) rfl⟩
  | str z =>
    obtain ⟨c, q⟩ := fin_if q
    simp only [Rep] at r
    exact sl_str pins s σ A.H x v vl vu lo hi sl Q I rx hs pl pu ⟨z, r, by rw [line_eq]; exact c, Aft.val ok q (by simp only [Rep])⟩
  | _ => exact lists q
theorem ev_slice (he : EV T X e f) (hl : OV T X lo fl) (hh : OV T X hi fh) : EV T X (.Subscript e (.Slice lo hi none p2) pos) (eSl f fl fh) := by
  refine pe_imp (pe_slice (sl_m (T := T)) he hl hh) ?_
  rintro σ H Q ⟨A, en, rfl, ok, re, q⟩
  exact ⟨A, en, rfl, ok, re, (Aft.bind q).mono fun d A1 ok1 x1 q1 v rv => ⟨A1, en, rfl, ok1, re.ext ok x1, (Aft.bind q1).mono fun l A2 ok2 x2 q2 => ⟨A2, en, rfl, ok2, (re.ext ok x1).ext ok1 x2, (Aft.bind q2).mono fun u A3 ok3 x3 q3 =>
    ⟨A3, d, rfl, ok3, (rv.ext ok1 x2 _ _).ext ok2 x3 _ _, q3⟩⟩⟩⟩
end
end VL
/-! VL4: targets, statements, loops, comprehensions, defs. -/
namespace VL
open PySem PySem.Spec PyProof.Rows L2
/-! ### targets -/
/-- the slots but ks stand -/
def But (ks : List Nat) (σ σ' : L2.St) : Prop := σ'.length = σ.length ∧ ∀ k, k ∉ ks → σ'[k]? = σ[k]?
theorem But.refl (ks : List Nat) (σ : L2.St) : But ks σ σ := ⟨rfl, fun _ _ => rfl⟩
theorem But.mono {ks ls : List Nat} {σ σ' : L2.St} (h : But ks σ σ') (s : ∀ k ∈ ks, k ∈ ls) : But ls σ σ' := ⟨h.1, fun k n => h.2 k fun z => n (s k z)⟩
theorem But.trans {ks : List Nat} {σ σ1 σ2 : L2.St} (a : But ks σ σ1) (b : But ks σ1 σ2) : But ks σ σ2 := ⟨b.1.trans a.1, fun k n => (b.2 k n).trans (a.2 k n)⟩
theorem But.set (σ : L2.St) (i : Nat) (v : Option V) : But [i] σ (σ.set i v) := ⟨by simp, fun k n => by rw [List.getElem?_set_ne (by intro e; exact n (by simp [e]))]⟩
theorem wipe_get : ∀ (vs : List Nat) (σ : L2.St) (k : Nat), (wipe σ vs)[k]? = if k ∈ vs then σ[k]?.map (fun _ => none) else σ[k]?
  | [], σ, k => by simp [wipe]
  | v :: vs, σ, k => by
    unfold wipe
    by_cases hk : v = k
    · subst hk
      by_cases hl : v < σ.length
      · rw [List.getElem?_set_self (by rw [wipe_length]; exact hl)]
        simp [hl]
      · rw [List.getElem?_eq_none (by rw [List.length_set, wipe_length]; omega)]
        simp [List.getElem?_eq_none (by omega : σ.length ≤ v)]
    · rw [List.getElem?_set_ne hk, wipe_get vs σ k]
      by_cases hm : k ∈ vs
      · simp [hm]
      · have : ¬ k = v := fun e => hk e.symm
        simp [hm, this]
theorem wipe_but {vs : List Nat} {σ σ' : L2.St} (h : But vs σ σ') : wipe σ' vs = wipe σ vs := by
  apply List.ext_getElem?
  intro k
  rw [wipe_get, wipe_get]
  by_cases hk : k ∈ vs
  · rw [if_pos hk, if_pos hk]
    by_cases hl : k < σ.length
    · rw [List.getElem?_eq_getElem hl, List.getElem?_eq_getElem (by rw [h.1]; exact hl)]
      rfl
    · have hz := h.1
      rw [List.getElem?_eq_none (l := σ) (by omega), List.getElem?_eq_none (l := σ') (by omega)]
  · rw [if_neg hk, if_neg hk]
    exact h.2 k hk
def wipeD (en : DEnv) : List Nat → DEnv
  | [] => en
  | v :: vs => (wipeD en vs).set v none
section
variable (K : PySem.W.Frag) (mg : Str → Option Value) (T : List NdefX.NTab)
def tG (ks : List Nat) (g : D → DEnv → M DEnv) : TG := fun v σ H Q => ∃ A d en, A.H = H ∧ Ok K mg T A ∧ Rep K mg A d v ∧ REnv K mg A en σ ∧ Aft K mg T A (g d en A.S) fun en' A' => ∀ σ', But ks σ σ' → REnv K mg A' en' σ' → Q σ' A'.H
def tGs (ks : List Nat) (g : List D → DEnv → M DEnv) : TGs := fun vs σ H Q => ∃ A ds en, A.H = H ∧ Ok K mg T A ∧ Reps K mg A ds vs ∧ REnv K mg A en σ ∧ Aft K mg T A (g ds en A.S) fun en' A' => ∀ σ', But ks σ σ' → REnv K mg A' en' σ' → Q σ' A'.H
end
abbrev GV (T : List NdefX.NTab) (X : Cx) (e : Expr) (ks : List Nat) (g : D → DEnv → M DEnv) : Prop := PG X e (tG X.K X.mg T ks g)
abbrev GsV (T : List NdefX.NTab) (X : Cx) (es : List Expr) (ks : List Nat) (g : List D → DEnv → M DEnv) : Prop := PGs X es (tGs X.K X.mg T ks g)
def gN (i : Nat) : D → DEnv → M DEnv := fun d en S => .ok (en.set i (some d)) S
def gsNil : List D → DEnv → M DEnv := fun ds en S => match ds with
  | [] => .ok en S
  | _ => .bad
def gsCons (g : D → DEnv → M DEnv) (gs : List D → DEnv → M DEnv) : List D → DEnv → M DEnv := fun ds en => match ds with
  | d :: ds => M.bind (g d en) fun en' => gs ds en'
  | [] => M.bad
def tupOf : D → Option (List D)
  | .tup ds => some ds
  | .wtup ds => some ds
  | _ => none
def gT (n : Nat) (gs : List D → DEnv → M DEnv) : D → DEnv → M DEnv := fun d en S => match tupOf d with
  | some ds => if ds.length = n then gs ds en S else .bad
  | none => .bad
def mSet (o i d : D) (en : DEnv) : M DEnv := fun S => match o, i with
  | .cel c, .int k => match (S[c]?).join with
    | some ds => match ixN ds.length k with
      | some j => .ok en (S.set c (some (ds.set j d)))
      | none => .bad
    | none => .bad
  | _, _ => .bad
def gIx (fo fi : DEnv → M D) : D → DEnv → M DEnv := fun d en => M.bind (fo en) fun o => M.bind (fi en) fun i => mSet o i d en
section
variable {T : List NdefX.NTab} {X : Cx} {e a b : Expr} {es : List Expr} {pos : Pos} {ks ls : List Nat} {g : D → DEnv → M DEnv} {gs : List D → DEnv → M DEnv} {f fo fi : DEnv → M D}
theorem pg_imp {X : Cx} {e : Expr} {t t' : TG} (h : PG X e t) (i : ∀ v σ H Q, t' v σ H Q → t v σ H Q) : PG X e t' := ⟨fun pins s σ H v u Q I r q => h.run pins s σ H v u Q I r (i _ _ _ _ q)⟩
theorem pgs_imp {X : Cx} {e : List Expr} {t t' : TGs} (h : PGs X e t) (i : ∀ v σ H Q, t' v σ H Q → t v σ H Q) : PGs X e t' := ⟨fun pins s σ H v u Q I r q => h.run pins s σ H v u Q I r (i _ _ _ _ q)⟩
theorem gv_name {i : Nat} {x : Str} (hN : X.N.Nodup) (hi : X.N[i]? = some x := by rfl) (hx : Loc X.env.scope x := by first | exact Or.inl rfl | exact Or.inr rfl) (hf : X.fn x = true ∨ X.env.scope.names.lookup x = some .local := by first | exact .inl rfl | exact .inr rfl | assumption) : GV T X (.Name x pos) [i] (gN i) := by
  refine pg_imp (pg_name hN hi hx hf) ?_
  rintro v σ H Q ⟨A, d, en, rfl, ok, rv, re, q⟩
  exact Aft.now ok q _ (But.set σ i (some v)) (re.set i rv)
theorem gsv_nil : GsV T X [] ks gsNil := by
  refine pgs_imp pgs_nil ?_
  rintro vs σ H Q ⟨A, ds, en, rfl, ok, rv, re, q⟩
  cases ds with
  | nil => simp only [Reps] at rv; exact ⟨rv, Aft.now ok q _ (But.refl _ _) re⟩
  | cons _ _ => exact q.elim
theorem gsv_cons (h1 : GV T X e ks g) (h2 : GsV T X es ls gs) (hs : (assignEach (e :: es) X.env).map (·.2) = assign e X.env :: (assignEach es X.env).map (·.2) := by rfl) : GsV T X (e :: es) (ks ++ ls) (gsCons g gs) := by
  refine pgs_imp (pgs_cons h1 h2 hs) ?_
  rintro vs σ H Q ⟨A, ds, en, rfl, ok, rv, re, q⟩
  cases ds with
  | nil => exact q.elim
  | cons d ds =>
    simp only [Reps] at rv
    obtain ⟨v, r, rfl, r1, r2⟩ := rv
    refine ⟨v, r, rfl, A, d, en, rfl, ok, r1, re, (Aft.bind q).mono fun en' A1 ok1 x1 q1 σ1 b1 re1 => ?_⟩
    exact ⟨A1, ds, en', rfl, ok1, r2.ext ok x1 _ _, re1, q1.mono fun en2 A2 ok2 x2 q2 σ2 b2 re2 => q2 σ2 ((b1.mono fun k h => List.mem_append_left _ h).trans (b2.mono fun k h => List.mem_append_right _ h)) re2⟩
theorem gv_tup {k n : Nat} (hc : X.calm = true) (h : GsV T X es ks gs) (hn : (assignEach es X.env).length = n := by rfl) (hst : (assignEach es X.env).findIdx? (·.1) = none := by rfl) : GV T X (.Tuple es k pos) ks (gT n gs) := by
  refine pg_imp (pg_tup hc h hn hst) ?_
  rintro v σ H Q ⟨A, d, en, rfl, ok, rv, re, q⟩
  unfold gT at q
  cases e1 : tupOf d with
  | none => rw [e1] at q; exact q.elim
  | some ds =>
    rw [e1] at q
    by_cases hl : ds.length = n
    · simp only [hl, if_true] at q
      have key : ∃ a vs, v = .ref a ∧ SqT X.K A.H a vs ∧ Reps X.K X.mg A ds vs := by
        cases d with
        | tup xs => cases e1; simp only [Rep] at rv; obtain ⟨a, vs, h1, h2, h3⟩ := rv; exact ⟨a, vs, h1, h2.sq, h3⟩
        | wtup xs => cases e1; simp only [Rep] at rv; exact rv
        | _ => cases e1
      obtain ⟨a, vs, h1, h2, h3⟩ := key
      exact ⟨a, vs, h1, h2, by rw [← h3.length]; exact hl, A, ds, en, rfl, ok, h3, re, q⟩
    · simp only [hl, if_false] at q
      exact q.elim
theorem cel_join {A : AS} {c : Nat} {ds : List D} (h : (A.S[c]?).join = some ds) : A.S[c]? = some (some ds) := by
  cases q : A.S[c]? with
  | none => rw [q] at h; cases h
  | some o => rw [q] at h; exact congrArg some h
theorem gv_ix (ho : EV T X a fo) (hi : EV T X b fi) (ha : ∀ v, assign (.Subscript a b pos) X.env v = (do
      let ov ← holding [v] (eval a X.env)
      let iv ← holding [v, ov] (eval b X.env)
      standAt pos
      holding [v, ov, iv] (setItem ov iv v)
      release [v, ov, iv] []) := by intro _; rfl) : GV T X (.Subscript a b pos) [] (gIx fo fi) := by
  refine pg_imp (pg_sub ho hi set_list ha) ?_
  rintro v σ H Q ⟨A, d, en, rfl, ok, rv, re, q⟩
  refine ⟨A, en, rfl, ok, re, (Aft.bind q).mono fun o A1 ok1 x1 q1 w rw1 => ⟨A1, en, rfl, ok1, re.ext ok x1, (Aft.bind q1).mono fun i A2 ok2 x2 q2 z rz => ?_⟩⟩
  have ro := rw1.ext ok1 x2 _ _
  have rd := (rv.ext ok x1 _ _).ext ok1 x2 _ _
  unfold mSet at q2
  cases o with
  | cel c =>
    cases i with
    | int k =>
      simp only [] at q2
      cases e1 : (A2.S[c]?).join with
      | none => rw [e1] at q2; exact q2.elim
      | some ds =>
        rw [e1] at q2
        cases e2 : ixN ds.length k with
        | none => simp only [e2] at q2; exact q2.elim
        | some j =>
          simp only [e2] at q2
          simp only [Rep] at ro rz
          obtain ⟨p, rfl, hp⟩ := ro
          have e3 := cel_join e1
          obtain ⟨vs, h1, h2⟩ := ok2.cell c p ds e3 hp
          obtain ⟨okP, xP⟩ := put_ok ok2 e3 hp (h2.set rd j)
          refine ⟨p, vs, k, j, rfl, rz, h1, by rw [← h2.length]; exact e2, ?_⟩
          exact q2 (A2.put c p (ds.set j d) (vs.set j v)) rfl okP xP σ (But.refl _ _) (((re.ext ok x1).ext ok1 x2).ext ok2 xP)
    | _ => exact q2.elim
  | _ => exact q2.elim
end
/-! ### statements -/
inductive SR where
  | nx (en : DEnv) (S : Sto) | rt (d : D) (S : Sto) | bk (en : DEnv) (S : Sto) | ct (en : DEnv) (S : Sto) | bad
abbrev SM := DEnv → Sto → SR
section
variable (K : PySem.W.Frag) (mg : Str → Option Value) (T : List NdefX.NTab)
def SAft (A : AS) (r : SR) (B : Ends) : Prop := match r with
  | .nx en S' => ∀ A' σ', A'.S = S' → Ok K mg T A' → Ext A A' → REnv K mg A' en σ' → B.nx σ' A'.H
  | .bk en S' => ∀ A' σ', A'.S = S' → Ok K mg T A' → Ext A A' → REnv K mg A' en σ' → B.bk σ' A'.H
  | .ct en S' => ∀ A' σ', A'.S = S' → Ok K mg T A' → Ext A A' → REnv K mg A' en σ' → B.ct σ' A'.H
  | .rt d S' => ∀ A' v, A'.S = S' → Ok K mg T A' → Ext A A' → Rep K mg A' d v → B.rt v A'.H
  | .bad => False
def tS (g : SM) : TS := fun B σ H => ∃ A en, A.H = H ∧ Ok K mg T A ∧ REnv K mg A en σ ∧ SAft K mg T A (g en A.S) B
end
abbrev SV (T : List NdefX.NTab) (X : Cx) (s : Stmt) (g : SM) : Prop := PS X s (tS X.K X.mg T g)
abbrev SsV (T : List NdefX.NTab) (X : Cx) (s : List Stmt) (g : SM) : Prop := PSs X s (tS X.K X.mg T g)
section
variable {K : PySem.W.Frag} {mg : Str → Option Value} {T : List NdefX.NTab} {A A' A1 A2 : AS} {r : SR} {B B' : Ends}
theorem SAft.from (x : Ext A A1) (h : SAft K mg T A r B) : SAft K mg T A1 r B := by
  cases r with
  | nx en S => exact fun A' σ' e ok x' re => h A' σ' e ok (x.trans x') re
  | bk en S => exact fun A' σ' e ok x' re => h A' σ' e ok (x.trans x') re
  | ct en S => exact fun A' σ' e ok x' re => h A' σ' e ok (x.trans x') re
  | rt d S => exact fun A' v e ok x' re => h A' v e ok (x.trans x') re
  | bad => exact h
/-- a step of a value ahead of a statement -/
def sB {α : Type} (x : M α) (f : α → Sto → SR) : Sto → SR := fun S => match x S with
  | .ok a S1 => f a S1
  | .bad => .bad
theorem SAft.bind {α : Type} {x : M α} {f : α → Sto → SR} (h : SAft K mg T A (sB x f A.S) B) : Aft K mg T A (x A.S) fun d A1 => SAft K mg T A1 (f d A1.S) B := by
  unfold sB at h
  cases e : x A.S with
  | bad => rw [e] at h; exact h
  | ok d S1 =>
    rw [e] at h
    intro A1 e1 ok1 x1
    have h2 : SAft K mg T A (f d S1) B := h
    rw [e1]
    exact SAft.from x1 h2
end
theorem ps_imp {X : Cx} {s : Stmt} {t t' : TS} (h : PS X s t) (i : ∀ B σ H, t' B σ H → t B σ H) : PS X s t' := ⟨fun pins s σ H B I q => h.run pins s σ H B I (i _ _ _ q)⟩
theorem pss_imp {X : Cx} {s : List Stmt} {t t' : TS} (h : PSs X s t) (i : ∀ B σ H, t' B σ H → t B σ H) : PSs X s t' := ⟨fun pins s σ H B I q => h.run pins s σ H B I (i _ _ _ q)⟩
def sNil : SM := fun en S => .nx en S
def sBrk : SM := fun en S => .bk en S
def sCnt : SM := fun en S => .ct en S
def sBad : SM := fun _ _ => .bad
def sSeq (g h : SM) : SM := fun en S => match g en S with
  | .nx en' S' => h en' S'
  | r => r
def sIf (c : DEnv → M Bool) (g h : SM) : SM := fun en => sB (c en) fun b => if b = true then g en else h en
def sRet (f : DEnv → M D) : SM := fun en => sB (f en) fun d S => .rt d S
def sRetN : SM := fun _ S => .rt .non S
def sDrop (f : DEnv → M D) : SM := fun en => sB (f en) fun _ S => .nx en S
def sAsg (f : DEnv → M D) (g : D → DEnv → M DEnv) : SM := fun en => sB (f en) fun d => sB (g d en) fun en' S => .nx en' S
def sPar (i j : Nat) (f : DEnv → M (List D)) : SM := fun en => sB (f en) fun ds S => match ds with
  | [d, e] => .nx ((en.set i (some d)).set j (some e)) S
  | _ => .bad
/-- the list that a name holds is from now on a value -/
def sFz (i : Nat) : SM := fun en S => match en[i]? with
  | some (some (.cel n)) => match (S[n]?).join with
    | some ds => .nx (en.set i (some (.lst ds))) (S.set n none)
    | none => .bad
  | _ => .bad
def forL (g : D → DEnv → M DEnv) (b : SM) : List D → SM
  | [], en, S => .nx en S
  | d :: ds, en, S => match g d en S with
    | .ok en1 S1 => match b en1 S1 with
      | .nx en2 S2 => forL g b ds en2 S2
      | .ct en2 S2 => forL g b ds en2 S2
      | .bk en2 S2 => .nx en2 S2
      | r => r
    | .bad => .bad
def sFor (f : DEnv → M (List D)) (g : D → DEnv → M DEnv) (b : SM) : SM := fun en => sB (f en) fun ds => forL g b ds en
def whileL (c : DEnv → M Bool) (b : SM) : Nat → SM
  | 0, _, _ => .bad
  | n + 1, en, S => match c en S with
    | .ok true S1 => match b en S1 with
      | .nx en2 S2 => whileL c b n en2 S2
      | .ct en2 S2 => whileL c b n en2 S2
      | .bk en2 S2 => .nx en2 S2
      | r => r
    | .ok false S1 => .nx en S1
    | .bad => .bad
section
variable {T : List NdefX.NTab} {X : Cx} {st : Stmt} {rest : List Stmt} {e c tg iter : Expr} {a b : List Stmt} {g h : SM} {f : DEnv → M D} {fc : DEnv → M Bool} {pos : Pos}
theorem sv_nil : SsV T X [] sNil := by
  refine pss_imp pss_nil ?_
  rintro B σ H ⟨A, en, rfl, ok, re, q⟩
  exact q A σ rfl ok (Ext.refl A) re
theorem sv_cons (h1 : SV T X st g) (h2 : SsV T X rest h) : SsV T X (st :: rest) (sSeq g h) := by
  refine pss_imp (pss_cons h1 h2) ?_
  rintro B σ H ⟨A, en, rfl, ok, re, q⟩
  refine ⟨A, en, rfl, ok, re, ?_⟩
  unfold sSeq at q
  cases eg : g en A.S with
  | nx en' S' =>
    rw [eg] at q
    intro A' σ' e1 ok1 x1 re1
    refine ⟨A', en', rfl, ok1, re1, ?_⟩
    rw [e1]
    exact SAft.from x1 q
  | bk en' S' => rw [eg] at q; exact q
  | ct en' S' => rw [eg] at q; exact q
  | rt d S' => rw [eg] at q; exact q
  | bad => rw [eg] at q; exact q
theorem sv_one (h1 : SV T X st g) : SsV T X [st] g := pss_one h1
theorem sv_pass : SV T X (.Pass pos) sNil := by
  refine ps_imp ps_pass ?_
  rintro B σ H ⟨A, en, rfl, ok, re, q⟩
  exact q A σ rfl ok (Ext.refl A) re
theorem sv_break : SV T X (.Break pos) sBrk := by
  refine ps_imp ps_break ?_
  rintro B σ H ⟨A, en, rfl, ok, re, q⟩
  exact q A σ rfl ok (Ext.refl A) re
theorem sv_bad : SV T X st sBad := by
  refine ps_imp ps_never ?_
  rintro B σ H ⟨A, en, rfl, ok, re, q⟩
  exact q
theorem ssv_bad : SsV T X a sBad := by
  refine pss_imp pss_never ?_
  rintro B σ H ⟨A, en, rfl, ok, re, q⟩
  exact q
theorem sv_if (hc : TV T X c fc) (ha : SsV T X a g) (hb : SsV T X b h) : SV T X (.If c a b pos) (sIf fc g h) := by
  refine ps_imp (ps_if hc ha hb) ?_
  rintro B σ H ⟨A, en, rfl, ok, re, q⟩
  refine ⟨A, en, rfl, ok, re, (SAft.bind q).mono fun k A1 ok1 x1 q1 => ?_⟩
  cases k with
  | true => exact iteT ⟨A1, en, rfl, ok1, re.ext ok x1, q1⟩
  | false => exact iteF ⟨A1, en, rfl, ok1, re.ext ok x1, q1⟩
theorem sv_ret (he : EV T X e f) : SV T X (.Return (some e) pos) (sRet f) := by
  refine ps_imp (ps_ret he) ?_
  rintro B σ H ⟨A, en, rfl, ok, re, q⟩
  exact ⟨A, en, rfl, ok, re, (SAft.bind q).mono fun d A1 ok1 x1 q1 v rv => q1 A1 v rfl ok1 (Ext.refl A1) rv⟩
theorem sv_retN : SV T X (.Return none pos) sRetN := by
  refine ps_imp ps_retN ?_
  rintro B σ H ⟨A, en, rfl, ok, re, q⟩
  exact q A .non rfl ok (Ext.refl A) (by simp only [Rep])
theorem sv_expr (he : EV T X e f) (hs : swapsWith e none pos.line X.env = pure false := by rfl) : SV T X (.Expr e pos) (sDrop f) := by
  refine ps_imp (ps_expr he hs) ?_
  rintro B σ H ⟨A, en, rfl, ok, re, q⟩
  exact ⟨A, en, rfl, ok, re, (SAft.bind q).mono fun d A1 ok1 x1 q1 v rv => q1 A1 σ rfl ok1 (Ext.refl A1) (re.ext ok x1)⟩
theorem asg_of {K : PySem.W.Frag} {mg : Str → Option Value} {T : List NdefX.NTab} {gt : D → DEnv → M DEnv} {ks : List Nat} {B : Ends} {σ : L2.St} {H : Hp} (h : tS K mg T (sAsg f gt) B σ H) : tE K mg T f σ H fun x H1 => tG K mg T ks gt x σ H1 B.nx := by
  obtain ⟨A, en, rfl, ok, re, q⟩ := h
  exact ⟨A, en, rfl, ok, re, (SAft.bind q).mono fun d A1 ok1 x1 q1 v rv => ⟨A1, d, en, rfl, ok1, rv, re.ext ok x1, (SAft.bind q1).mono fun en' A2 ok2 x2 q2 σ' _ re' => q2 A2 σ' rfl ok2 (Ext.refl A2) re'⟩⟩
theorem sv_asg {gt : D → DEnv → M DEnv} {ks : List Nat} (he : EV T X e f) (hg : GV T X tg ks gt) (hs : swapsWithSole [tg] e pos.line X.env = pure false := by rfl) (hw : swappedStores [tg] e X.env = pure none := by rfl)
    (h1 : (assignEach [tg] X.env).map (·.2) = [assign tg X.env] := by rfl) : SV T X (.Assign [tg] e pos) (sAsg f gt) := ps_imp (ps_asg he hg hs hw h1) fun B σ H q => asg_of q
theorem sv_set {i : Nat} {x : Str} {pos' : Pos} (hN : X.N.Nodup) (he : EV T X e f) (hi : X.N[i]? = some x := by rfl) (hx : Loc X.env.scope x := by first | exact Or.inl rfl | exact Or.inr rfl) (hs : swapsWith e (some (.Name x pos')) pos.line X.env = pure false := by rfl)
    (hf : X.fn x = true ∨ X.env.scope.names.lookup x = some .local := by first | exact .inl rfl | exact .inr rfl | assumption) : SV T X (.Assign [.Name x pos'] e pos) (sAsg f (gN i)) := by
  refine ps_imp (ps_set hN hi hx he hs hf) ?_
  rintro B σ H ⟨A, en, rfl, ok, re, q⟩
  refine ⟨A, en, rfl, ok, re, (SAft.bind q).mono fun d A1 ok1 x1 q1 v rv => ?_⟩
  exact Aft.now ok1 (SAft.bind q1) A1 _ rfl ok1 (Ext.refl A1) ((re.ext ok x1).set i rv)
theorem sv_par {i j : Nat} {x y : Str} {ea eb : Expr} {fs : DEnv → M (List D)} {px py pt : Pos} {kt : Nat} {k2 : Nat} {pt2 : Pos} (hc : X.calm = true) (hN : X.N.Nodup) (hi : X.N[i]? = some x) (hj : X.N[j]? = some y) (hij : i ≠ j)
    (hx : X.env.scope.names.lookup x = some .local) (hy : X.env.scope.names.lookup y = some .local) (ha : AV T X [ea, eb] fs)
    (hw : swappedStores [.Tuple [.Name x px, .Name y py] kt pt] (.Tuple [ea, eb] k2 pt2) X.env = pure (some [x, y]))
    (hs : swapsWithSole [.Tuple [.Name x px, .Name y py] kt pt] (.Tuple [ea, eb] k2 pt2) pos.line X.env = pure false := by rfl) :
    SV T X (.Assign [.Tuple [.Name x px, .Name y py] kt pt] (.Tuple [ea, eb] k2 pt2) pos) (sPar i j fs) := by
  refine ps_imp (ps_par hc hN hi hj hij hx hy ha hw hs) ?_
  rintro B σ H ⟨A, en, rfl, ok, re, q⟩
  refine ⟨A, en, rfl, ok, re, (SAft.bind q).mono fun ds A1 ok1 x1 q1 vs rs => ?_⟩
  match ds, q1, rs with
  | [d, e], q1, rs =>
    simp only [Reps] at rs
    obtain ⟨v, _, rfl, r1, w, _, rfl, r2, rfl⟩ := rs
    exact ⟨v, w, rfl, q1 A1 _ rfl ok1 (Ext.refl A1) (((re.ext ok x1).set i r1).set j r2)⟩
  | [], q1, _ => exact q1.elim
  | [_], q1, _ => exact q1.elim
  | _ :: _ :: _ :: _, q1, _ => exact q1.elim
/-- a name's list is frozen ahead of the rest of the block -/
theorem ssv_fz (i : Nat) (hr : SsV T X rest g) : SsV T X rest (sSeq (sFz i) g) := by
  refine pss_imp hr ?_
  rintro B σ H ⟨A, en, rfl, ok, re, q⟩
  unfold sSeq sFz at q
  cases e1 : en[i]? with
  | none => rw [e1] at q; exact q.elim
  | some o =>
    rw [e1] at q
    match o, e1, q with
    | some (.cel n), e1, q =>
      simp only [] at q
      cases e2 : (A.S[n]?).join with
      | none => rw [e2] at q; exact q.elim
      | some ds =>
        rw [e2] at q
        obtain ⟨v, hv, rv⟩ := re.get e1
        simp only [Rep] at rv
        obtain ⟨p, rfl, hp⟩ := rv
        obtain ⟨okF, xF, rF⟩ := fz_ok ok (cel_join e2) hp
        refine ⟨A.fz n, en.set i (some (.lst ds)), rfl, okF, ?_, SAft.from xF q⟩
        have := (re.ext ok xF).set i rF
        rwa [show σ.set i (some (.ref p)) = σ from ?_] at this
        apply List.ext_getElem?
        intro k
        by_cases hk : i = k
        · subst hk
          rw [hv, List.getElem?_set_self (List.getElem?_eq_some_iff.mp hv).1]
        · rw [List.getElem?_set_ne hk]
    | none, e1, q => exact q.elim
    | some .non, e1, q => exact q.elim
    | some (.bl _), e1, q => exact q.elim
    | some (.int _), e1, q => exact q.elim
    | some (.str _), e1, q => exact q.elim
    | some (.tup _), e1, q => exact q.elim
    | some (.lst _), e1, q => exact q.elim
    | some (.fro _), e1, q => exact q.elim
    | some (.glo _), e1, q => exact q.elim
    | some (.wtup _), e1, q => exact q.elim
    | some (.ty _), e1, q => exact q.elim
theorem sv_while {fc : DEnv → M Bool} (n : Nat) (hp : PassesOwn (model X.prog X.w) X.A X.env X.xe) (hc : TV T X c fc) (hb : SsV T X a g) : SV T X (.While c a [] pos) (whileL fc g n) := by
  refine ps_imp (ps_while hp hc hb) ?_
  rintro B σ H ⟨A, en, rfl, ok, re, q⟩
  refine ⟨fun m σ H => ∃ A en, A.H = H ∧ Ok X.K X.mg T A ∧ REnv X.K X.mg A en σ ∧ SAft X.K X.mg T A (whileL fc g m en A.S) B, ⟨n, A, en, rfl, ok, re, q⟩, ?_⟩
  rintro m σ1 H1 ⟨A1, en1, rfl, ok1, re1, q1⟩
  cases m with
  | zero => exact q1.elim
  | succ m =>
    refine ⟨A1, en1, rfl, ok1, re1, ?_⟩
    simp only [whileL] at q1
    cases ec : fc en1 A1.S with
    | bad => rw [ec] at q1; exact q1
    | ok b S1 =>
      rw [ec] at q1
      intro A2 e2 ok2 x2
      cases b with
      | false => exact iteF (SAft.from (r := .nx en1 S1) x2 q1 A2 σ1 e2 ok2 (Ext.refl A2) (re1.ext ok1 x2))
      | true =>
        refine iteT ⟨fun σ' H' => ∃ A en, A.H = H' ∧ Ok X.K X.mg T A ∧ REnv X.K X.mg A en σ' ∧ SAft X.K X.mg T A (whileL fc g m en A.S) B, fun σ' H' h => ⟨m, Nat.lt_succ_self m, h⟩, A2, en1, rfl, ok2, re1.ext ok1 x2, ?_⟩
        rw [e2]
        simp only [] at q1
        cases eb : g en1 S1 with
        | nx en2 S2 => rw [eb] at q1; exact fun A3 σ3 e3 ok3 x3 re3 => ⟨A3, en2, rfl, ok3, re3, by rw [e3]; exact SAft.from (x2.trans x3) q1⟩
        | ct en2 S2 => rw [eb] at q1; exact fun A3 σ3 e3 ok3 x3 re3 => ⟨A3, en2, rfl, ok3, re3, by rw [e3]; exact SAft.from (x2.trans x3) q1⟩
        | bk en2 S2 => rw [eb] at q1; exact fun A3 σ3 e3 ok3 x3 re3 => q1 A3 σ3 e3 ok3 (x2.trans x3) re3
        | rt d S2 => rw [eb] at q1; exact fun A3 v e3 ok3 x3 rv => q1 A3 v e3 ok3 (x2.trans x3) rv
        | bad => rw [eb] at q1; exact q1
/-! ### what is walked -/
/-- J walks the data ds from A on -/
def DWalk (K : PySem.W.Frag) (mg : Str → Option Value) (T : List NdefX.NTab) (A : AS) (ds : List D) (J : It) : Prop := ∃ (G : Hp → Prop) (Y : Nat → Hp → V → Hp → Prop), Walk J ds.length G Y ∧ (∀ A2, Ok K mg T A2 → Ext A A2 → G A2.H) ∧
  ∀ i x A2 H', i < ds.length → Ok K mg T A2 → Ext A A2 → Y i A2.H x H' → ∃ A3 d, A3.H = H' ∧ A3.S = A2.S ∧ Ok K mg T A3 ∧ Ext A2 A3 ∧ ds[i]? = some d ∧ Rep K mg A3 d x
def tI (K : PySem.W.Frag) (mg : Str → Option Value) (T : List NdefX.NTab) (f : DEnv → M (List D)) : TI := fun σ H R => ∃ A en, A.H = H ∧ Ok K mg T A ∧ REnv K mg A en σ ∧ Aft K mg T A (f en A.S) fun ds A' => ∀ J, DWalk K mg T A' ds J → R J A'.H
abbrev IV (T : List NdefX.NTab) (X : Cx) (tg e : Expr) (f : DEnv → M (List D)) : Prop := PI X tg e (tI X.K X.mg T f)
theorem drop_cons {α : Type} {l : List α} {i : Nat} {d : α} (h : l[i]? = some d) : l.drop i = d :: l.drop (i + 1) := by
  obtain ⟨hl, e⟩ := List.getElem?_eq_some_iff.mp h
  rw [List.drop_eq_getElem_cons hl, e]
theorem sv_for {fi : DEnv → M (List D)} {gt : D → DEnv → M DEnv} {ks : List Nat} (hp : PassesOwn (model X.prog X.w) X.A X.env X.xe) (hc : X.calm = true) (hi : IV T X tg iter fi) (hg : GV T X tg ks gt) (hb : SsV T X a g)
    (hs : ∀ x, foldedSetIterable iter X.env x = pure x := by intro _; rfl) : SV T X (.For tg iter a [] pos) (sFor fi gt g) := by
  refine ps_imp (ps_for hp hc hi hg hb hs) ?_
  rintro B σ H ⟨A, en, rfl, ok, re, q⟩
  refine ⟨A, en, rfl, ok, re, (SAft.bind q).mono fun ds A1 ok1 x1 q1 J hJ => ?_⟩
  obtain ⟨G, Y, w, hG, hY⟩ := hJ
  refine for_it w (fun i σ H => ∃ A2 en2, A2.H = H ∧ Ok X.K X.mg T A2 ∧ Ext A1 A2 ∧ REnv X.K X.mg A2 en2 σ ∧ SAft X.K X.mg T A2 (forL gt g (ds.drop i) en2 A2.S) B) ?_ ?_ ?_ ?_
  · exact ⟨A1, en, rfl, ok1, Ext.refl _, re.ext ok x1, q1⟩
  · rintro i σ2 H2 _ ⟨A2, en2, rfl, ok2, x2, _, _⟩
    exact hG A2 ok2 x2
  · rintro i x σ2 H2 H3 hi ⟨A2, en2, rfl, ok2, x2, re2, q2⟩ hy
    obtain ⟨A3, d, rfl, e3, ok3, x3, hd, rd⟩ := hY i x A2 H3 hi ok2 x2 hy
    rw [drop_cons hd] at q2
    simp only [forL] at q2
    refine ⟨A3, d, en2, rfl, ok3, rd, re2.ext ok2 x3, ?_⟩
    rw [e3]
    cases eg : gt d en2 A2.S with
    | bad => rw [eg] at q2; exact q2
    | ok en4 S4 =>
      rw [eg] at q2
      intro A4 e4 ok4 x4 σ4 _ re4
      refine ⟨A4, en4, rfl, ok4, re4, ?_⟩
      rw [e4]
      simp only [] at q2
      have x24 : Ext A2 A4 := x3.trans x4
      cases eb : g en4 S4 with
      | nx en5 S5 => rw [eb] at q2; exact fun A5 σ5 e5 ok5 x5 re5 => ⟨A5, en5, rfl, ok5, (x2.trans x24).trans x5, re5, by rw [e5]; exact SAft.from (x24.trans x5) q2⟩
      | ct en5 S5 => rw [eb] at q2; exact fun A5 σ5 e5 ok5 x5 re5 => ⟨A5, en5, rfl, ok5, (x2.trans x24).trans x5, re5, by rw [e5]; exact SAft.from (x24.trans x5) q2⟩
      | bk en5 S5 => rw [eb] at q2; exact fun A5 σ5 e5 ok5 x5 re5 => q2 A5 σ5 e5 ok5 (x24.trans x5) re5
      | rt d S5 => rw [eb] at q2; exact fun A5 v e5 ok5 x5 rv => q2 A5 v e5 ok5 (x24.trans x5) rv
      | bad => rw [eb] at q2; exact q2
  · rintro σ2 H2 ⟨A2, en2, rfl, ok2, x2, re2, q2⟩
    rw [List.drop_length] at q2
    exact q2 A2 σ2 rfl ok2 (Ext.refl A2) re2
end
end VL
/-! VL5: what a for and a comprehension walk. -/
namespace VL
open PySem PySem.Spec PyProof.Rows L2
/-! ### pairs handed out by an iterator of the library -/
/-- two rows of values, told by the heap -/
def Itq (src : Hp → List V → List V → Prop) : It :=
  ⟨fun i H => ∃ xs ys, src H xs ys ∧ i < min xs.length ys.length,
   fun i H v H' => ∃ T x y, v = .ref T ∧ H T = none ∧ H' = upd H T (.tup [x, y]) ∧ ∀ xs ys, src H xs ys → xs[i]? = some x ∧ ys[i]? = some y,
   fun i H => ∃ xs ys, src H xs ys ∧ i = min xs.length ys.length⟩
/-- what the iterator's own cells fp are at turn i; rows: what the heap says of the two rows, and that the library's walk goes -/
theorem turn_q {P : Program} {w : World} {K : PySem.W.Frag} {elts : List Expr} {kk : Nat} {tpos : Pos} {it : Addr} {fp wr : List Addr} {tn : Nat → Heap → Prop} {src : Hp → List V → List V → Prop} (hm : it ∈ fp) (hw : ∀ b ∈ wr, b ∈ fp)
    (obj : ∀ i h, tn i h → ∀ b ∈ fp, ∃ o, h.get? b = some o ∧ ∀ v, o.data ≠ .cell v) (keep : ∀ i h h', tn i h → (∀ b ∈ fp, ∀ o, h.get? b = some o → h'.get? b = some o) → tn i h')
    (self : ∀ (A : Around) (i : Nat) (s : Shared) (Q : Value → Shared → Prop) (E : Value → Shared → Prop), tn i s.heap → Q (.ref it) s → wpAny (model P w) A (pyIter (.ref it)) Q E s)
    (one : ∀ H xs ys xs' ys', ∀ (X : Cx) (pins : List (Addr × Obj)) (σ : L2.St) (s : Shared), X.K = K → Inv X pins σ H s → src H xs ys → src H xs' ys' → xs = xs' ∧ ys = ys')
    (rows : ∀ (X : Cx) (pins : List (Addr × Obj)) (σ : L2.St) (H : Hp) (s : Shared) (xs ys : List V), X.prog = P → X.w = w → X.K = K → X.calm = true → Inv X pins σ H s → src H xs ys →
      ∃ (fp' : List Addr) (S : Heap → Prop), S s.heap ∧ GoesN P w X.A (.Tuple elts kk tpos) it fp' wr (min xs.length ys.length)
        (fun i h₀ v h => ∃ T u1 u2 x y, v = .ref T ∧ h₀.objs.size ≤ T ∧ xs[i]? = some x ∧ ys[i]? = some y ∧ RelV x u1 ∧ RelV y u2 ∧ h.IsTuple T #[u1, u2]) (fun i h => tn i h ∧ S h)) :
    Turn P w K (.Tuple elts kk tpos) (Itq src) fp it tn where
  mem := hm
  obj := obj
  keep := keep
  item := by
    intro X hP hw' hK hc i pins s σ H E I hf st hg
    obtain ⟨xs, ys, hs, hlt⟩ := hg
    obtain ⟨fp', S, hS, Gs⟩ := rows X pins σ H s xs ys hP hw' hK hc I hs
    subst hP hw' hK
    refine wpAny_mono (Gs.goes i s (fun v s2 => ∃ x H', Inv X pins σ H' s2 ∧ RelV x v ∧ (Itq src).yld i H x H' ∧ tn (i + 1) s2.heap ∧ ∀ b ∈ fp, H' b = none) E hlt ⟨st, hS⟩ fun v h' tk hY st' hk htk => ?_) (fun r s1 h => h) fun _ _ z => z
    obtain ⟨T, u1, u2, x, y, rfl, hT, h1, h2, r1, r2, hI⟩ := hY
    have new : ObjOk X.prog X.w (upd H T (.tup [x, y])) h' T (.tup [x, y]) := ⟨by show 2 ≤ sizeLine; decide, [u1, u2], .cons r1 (.cons r2 .nil), hI⟩
    have I1 : Inv X pins σ (upd H T (.tup [x, y])) { s with heap := h', toks := tk } := I.turnedNew (ch := wr) hk (fun b hb => hf b (hw b hb)) hT new
    refine ⟨.ref T, _, I1, rfl, ⟨T, x, y, rfl, I.hok.fresh hT, rfl, fun xs' ys' h => ?_⟩, st'.1, fun b hb => ?_⟩
    · obtain ⟨e1, e2⟩ := one H xs ys xs' ys' X pins σ s rfl I hs h
      rw [← e1, ← e2]
      exact ⟨h1, h2⟩
    · obtain ⟨o, ho, _⟩ := obj i s.heap st b hb
      rw [upd_ne (Nat.ne_of_lt (Nat.lt_of_lt_of_le (Heap.lt_size ho) hT))]
      exact (hf b hb).1
  done := by
    intro X hP hw' hK hc i pins s σ H E I hf st hg
    obtain ⟨xs, ys, hs, rfl⟩ := hg
    obtain ⟨fp', S, hS, Gs⟩ := rows X pins σ H s xs ys hP hw' hK hc I hs
    subst hP hw' hK
    exact Gs.stops s (fun s1 => Inv X pins σ H s1) E ⟨st, hS⟩ fun h' tk hk _ => by
      refine I.step (g' := s.gens) (d' := s.drawn) (ch := wr) (fun b hb => ?_) (fun b o _ _ hc e _ => hk b o hc e) (fun b o _ _ hc e _ => ⟨o.slots, hk b o hc e⟩) (fun _ _ _ _ n => n) (fun b o hc e => ⟨o, hk b o hc e⟩) (fun _ _ e => e) (fun _ _ _ e => e) (fun b ps e => ⟨#[], by rw [e]; simp⟩) (fun m hm => ?_) (fun b u e => ?_) I.bare
      · obtain ⟨f0, f1, f2, f3, f4, f5⟩ := hf b (hw b hb)
        exact ⟨f3, f1, f4, f5⟩
      · obtain ⟨o, es, ep, ho, r⟩ := hm
        exact ⟨o, es, ep, hk _ o (fun z => (hf _ (hw _ z)).2.1 rfl) ho, r⟩
      · have nit : ∀ c u, H c = some u → c ∉ wr := fun c u e z => by
          have q := (hf c (hw c z)).1
          rw [q] at e; cases e
        refine (I.hok b u e).stay (fun c v hc q => hk c v ?_ q) (fun _ q => q) fun _ _ q => q
        rcases hc with z | z
        · rw [z]; exact nit b u e
        · exact nit c _ z
  self := self
theorem goesN_st {prog : Program} {w : World} {A : Around} {target : Expr} {I : Addr} {fp wr : List Addr} {n : Nat} {Y : Nat → Heap → Value → Heap → Prop} {St St' : Nat → Heap → Prop} (G : GoesN prog w A target I fp wr n Y St) (h : ∀ i h, St i h ↔ St' i h) : GoesN prog w A target I fp wr n Y St' := by
  have e : St = St' := by
    funext i h'
    exact propext (h i h')
  subst e
  exact G
/-! ### the sources: lists and tuples -/
/-- a row of values at a: a list or a tuple -/
inductive Sd where
  | l | t
def Sd.at_ (K : PySem.W.Frag) (H : Hp) (a : Addr) (xs : List V) : Sd → Prop
  | .l => SqL K H a xs
  | .t => SqT K H a xs
def Sd.itO (a : Addr) : Sd → Obj
  | .l => { cls := .type "list_iterator", data := .fields #[.ref a, .int 0 0] }
  | .t => { cls := .type "tuple_iterator", data := .fields #[.ref a, .int 0 0] }
def Sd.here (h : Heap) (a : Addr) (its : Array Value) : Sd → Prop
  | .l => h.IsList a its
  | .t => h.IsTuple a its
def Sd.on (h : Heap) (it a : Addr) (i : Nat) : Sd → Prop
  | .l => h.IsListIter it a i
  | .t => h.IsTupleIter it a i
theorem Sd.begins (k : Sd) (a : Addr) (its : Array Value) : Begins (.ref a) (k.itO a) (fun h => k.here h a its) := by
  cases k
  · exact begins_list a its
  · exact begins_tuple a its
theorem Sd.draws {P : Program} {w : World} {A : Around} (k : Sd) (hh : A.handled = none) (it a : Addr) (hne : a ≠ it) (its : Array Value) : Draws P w A it [it, a] its.size (fun i v => its[i]? = some v) (fun i h => k.on h it a i ∧ k.here h a its) := by
  cases k
  · exact Draws.list hh it a hne its
  · exact Draws.tuple hh it a hne its
theorem Sd.heap {X : Cx} {pins : List (Addr × Obj)} {σ : L2.St} {H : Hp} {s : Shared} (k : Sd) (I : Inv X pins σ H s) {a : Addr} {xs : List V} (h : k.at_ X.K H a xs) : ∃ its : List Value, Vals xs its ∧ k.here s.heap a its.toArray ∧ a < s.heap.objs.size := by
  cases k
  · obtain ⟨its, r, p, _⟩ := I.list h
    exact ⟨its, r, p.isList, p.lt⟩
  · obtain ⟨its, r, p, _⟩ := I.tuple h
    obtain ⟨o, ho, _⟩ := _root_.id p
    exact ⟨its, r, p, Heap.lt_size ho⟩
theorem Sd.inj {X : Cx} {pins : List (Addr × Obj)} {σ : L2.St} {H : Hp} {s : Shared} (k : Sd) (I : Inv X pins σ H s) {a : Addr} {xs ys : List V} (h : k.at_ X.K H a xs) (h' : k.at_ X.K H a ys) : xs = ys := by
  cases k
  · exact I.list_inj h h'
  · exact I.tuple_inj h h'
theorem Sd.onNew (k : Sd) {h : Heap} {it a : Addr} (e : h.get? it = some (k.itO a)) : k.on h it a 0 := by
  cases k
  · exact ⟨_, e, rfl, rfl⟩
  · exact ⟨_, e, rfl, rfl⟩
theorem Sd.onObj (k : Sd) {h : Heap} {it a : Addr} {i : Nat} (e : k.on h it a i) : ∃ o, h.get? it = some o ∧ ∀ v, o.data ≠ .cell v := by
  cases k
  · obtain ⟨o, e, _, d⟩ := e; exact ⟨o, e, fun v z => by rw [d] at z; cases z⟩
  · obtain ⟨o, e, _, d⟩ := e; exact ⟨o, e, fun v z => by rw [d] at z; cases z⟩
theorem Sd.onKeep (k : Sd) {h h' : Heap} {it a : Addr} {i : Nat} (e : k.on h it a i) (q : ∀ o, h.get? it = some o → h'.get? it = some o) : k.on h' it a i := by
  cases k
  · exact e.at q
  · exact e.at q
/-! ### enumerate -/
section
variable {T : List NdefX.NTab} {X : Cx}
theorem meets_enumerate_new1 {v : Value} {o : Obj} {Hc : Heap → Prop} (B : Begins v o Hc) :
    Meets (Builtin.«enumerate.__new__» ⟨[.type "enumerate", v], []⟩) (fun _ R s => Hc s.heap ∧
      R (.ok (.ret (.ref (s.heap.push o).objs.size))) { s with heap := (s.heap.push o).push { cls := .type "enumerate", data := .fields #[.none, .bool false, .ref s.heap.objs.size, rawInt 0, .none, .none] } }) :=
  .of_wp fun prog w A R s h => by
    obtain ⟨hp, g, d, tk, os⟩ := s
    obtain ⟨h1, h⟩ := h
    have hsub := sub_enumerate
    have q1 : ∀ {A' : Around} {E : Value → Shared → Prop} {Q : Value → Shared → Prop}, Q (.ref hp.objs.size) ⟨hp.push o, g, d, tk, os⟩ → wpAny (model prog w) A' (pyIter v) Q E ⟨hp, g, d, tk, os⟩ := fun q => B.iter prog w _ _ ⟨hp, g, d, tk, os⟩ _ h1 q
    wp_walk using q1
    refine wpAny_stack_any fun st => wpAny_pure ?_
    split
    · rename_i c _ _ _ _ _
      cases (c == Value.type "enumerate") <;> (wp_walk using q1; exact ⟨_, rfl, h⟩)
    · wp_walk using q1
      exact ⟨_, rfl, h⟩
theorem enum_begins1 {prog : Program} {w : World} {A : Around} {E : Value → Shared → Prop} {s : Shared} {v : Value} {o : Obj} {Hc : Heap → Prop} {Q : Value → Shared → Prop} (B : Begins v o Hc) (h1 : Hc s.heap)
    (h : ∀ h', IsEnum h' (s.heap.objs.size + 1) s.heap.objs.size 0 .none → h'.get? s.heap.objs.size = some o → (∀ b o, s.heap.get? b = some o → h'.get? b = some o) → Q (.ref (s.heap.objs.size + 1)) { s with heap := h' }) :
    wpAny (model prog w) A (call (.type "enumerate") [v]) Q E s := by
  refine callType_new F.called_enumerate (by decide) (F.typeCall_enumerate_1 _) (F.newCall_enumerate_1 _) (fun obj => F.args_object_init_2 obj _) F.entry_enumerate_new (meets_enumerate_new1 B) ⟨h1, ?_⟩
  have hz : (s.heap.push o).objs.size = s.heap.objs.size + 1 := Heap.size_push ..
  show _ ∧ _
  rw [hz]
  have he : IsEnum ((s.heap.push o).push { cls := .type "enumerate", data := .fields #[.none, .bool false, .ref s.heap.objs.size, rawInt 0, .none, .none] }) (s.heap.objs.size + 1) s.heap.objs.size 0 .none := by
    have := Heap.get?_push_size (s.heap.push o) (o := { cls := .type "enumerate", data := .fields #[.none, .bool false, .ref s.heap.objs.size, rawInt 0, .none, .none] }) rfl
    rw [hz] at this
    exact this
  exact ⟨⟨_, he, rfl⟩, h _ he (Heap.get?_push_of_some _ (Heap.get?_push_size _ B.free)) fun b o x => Heap.get?_push_of_some _ (Heap.get?_push_of_some _ x)⟩
def numV (n : Nat) : List V := (List.range n).map fun i : Nat => V.int (i : Int)
theorem numV_get {n i : Nat} (h : i < n) : (numV n)[i]? = some (.int (i : Int)) := by simp [numV, h]
def srcE (K : PySem.W.Frag) (k : Sd) (a : Addr) : Hp → List V → List V → Prop := fun H xs ys => xs = numV ys.length ∧ k.at_ K H a ys
theorem turn_e {P : Program} {w : World} {K : PySem.W.Frag} {elts : List Expr} {kk : Nat} {tpos : Pos} (k : Sd) (a e it : Addr) (hei : e ≠ it) (hae : a ≠ e) (hai : a ≠ it) :
    Turn P w K (.Tuple elts kk tpos) (Itq (srcE K k a)) [e, it] e (fun i h => (∃ old, IsEnum h e it ((0 : Int) + (i : Int)) old) ∧ k.on h it a i) := by
  refine turn_q (wr := [e, it]) (by simp) (fun b hb => hb) (fun i h st b hb => ?_) (fun i h h' st kp => ?_) (fun A i s Q E st h => ?_) ?_ ?_
  · obtain ⟨⟨old, he⟩, h2⟩ := st
    have e' : b = e ∨ b = it := by simpa using hb
    rcases e' with z | z
    · rw [z]; exact ⟨_, he, fun v q => nomatch q⟩
    · rw [z]; exact k.onObj h2
  · obtain ⟨⟨old, he⟩, h2⟩ := st
    exact ⟨⟨old, kp e (by simp) _ he⟩, k.onKeep h2 fun o q => kp it (by simp) o q⟩
  · obtain ⟨⟨old, he⟩, _⟩ := st
    exact wpAny_pyIter_enum he h
  · rintro H xs ys xs' ys' X pins σ s rfl I ⟨rfl, h1⟩ ⟨rfl, h2⟩
    have := k.inj I h1 h2
    exact ⟨by rw [this], this⟩
  · rintro X pins σ H s xs ys rfl rfl rfl hc I ⟨rfl, hs⟩
    obtain ⟨its, r, hh, hl⟩ := k.heap I hs
    have D := k.draws (P := X.prog) (w := X.w) (A := X.A.in1) (I.ok.hd hc) it a hai its.toArray
    refine ⟨[e, it, a], fun h => k.here h a its.toArray, hh, ?_⟩
    have Gs := GoesN.enumFrom (elts := elts) (x1 := kk) (pos := tpos) 0 D e hei (by simp [hei, Ne.symm hae]) (by simp)
    have hlen : its.toArray.size = ys.length := by rw [List.size_toArray]; exact r.length.symm
    have en : min (numV ys.length).length ys.length = its.toArray.size := by rw [hlen]; simp [numV]
    rw [en]
    refine goesN_st (Gs.mono fun i h₀ v h hi hy => ?_) fun i h => ⟨fun z => ⟨⟨z.1, z.2.1⟩, z.2.2⟩, fun z => ⟨z.1.1, z.1.2, z.2⟩⟩
    obtain ⟨T, t, x, rfl, h1, h2, h3⟩ := hy
    have hi2 : i < ys.length := by rw [← hlen]; exact hi
    obtain ⟨u, h4, h5⟩ := r.get (i := i) (List.getElem?_eq_getElem hi2)
    have e5 : u = x := by
      have h2' : its[i]? = some x := by simpa using h2
      exact Option.some.inj (h4.symm.trans h2')
    subst e5
    exact ⟨T, _, u, _, _, rfl, h1, numV_get hi2, List.getElem?_eq_getElem hi2, ⟨t, by simp⟩, h5, h3⟩
/-! ### zip -/
def srcZ (K : PySem.W.Frag) (k1 k2 : Sd) (a b : Addr) : Hp → List V → List V → Prop := fun H xs ys => k1.at_ K H a xs ∧ k2.at_ K H b ys
theorem turn_z {P : Program} {w : World} {K : PySem.W.Frag} {elts : List Expr} {kk : Nat} {tpos : Pos} (k1 k2 : Sd) (a b z TI TO i1 i2 : Addr) (S : ZipSep2 z TI TO i1 i2 [i1, a] [i2, b]) (h1 : a ≠ i1) (h2 : b ≠ i2) :
    Turn P w K (.Tuple elts kk tpos) (Itq (srcZ K k1 k2 a b)) [z, TI, TO, i1, i2] z (fun i h => IsZip h z TI TO .none ∧ IsTupOf2 h TI (.ref i1) (.ref i2) ∧ (∃ a1 a2, IsTupOf2 h TO a1 a2) ∧ k1.on h i1 a i ∧ k2.on h i2 b i) := by
  refine turn_q (wr := [z, TO, i1, i2]) (by simp) (fun c hc => by simp at hc ⊢; rcases hc with q | q | q | q <;> simp [q]) (fun i h st c hc => ?_) (fun i h h' st kp => ?_) (fun A i s Q E st h => ?_) ?_ ?_
  · obtain ⟨q1, q2, ⟨a1, a2, q3⟩, q4, q5⟩ := st
    have e' : c = z ∨ c = TI ∨ c = TO ∨ c = i1 ∨ c = i2 := by simpa using hc
    rcases e' with e | e | e | e | e
    · rw [e]; exact ⟨_, q1, fun v q => nomatch q⟩
    · rw [e]; exact ⟨_, q2, fun v q => nomatch q⟩
    · rw [e]; exact ⟨_, q3, fun v q => nomatch q⟩
    · rw [e]; exact k1.onObj q4
    · rw [e]; exact k2.onObj q5
  · obtain ⟨q1, q2, ⟨a1, a2, q3⟩, q4, q5⟩ := st
    exact ⟨kp z (by simp) _ q1, kp TI (by simp) _ q2, ⟨a1, a2, kp TO (by simp) _ q3⟩, k1.onKeep q4 fun o q => kp i1 (by simp) o q, k2.onKeep q5 fun o q => kp i2 (by simp) o q⟩
  · exact wpAny_pyIter_zip st.1 h
  · rintro H xs ys xs' ys' X pins σ s rfl I ⟨p1, p2⟩ ⟨p3, p4⟩
    exact ⟨k1.inj I p1 p3, k2.inj I p2 p4⟩
  · rintro X pins σ H s xs ys rfl rfl rfl hc I ⟨hs1, hs2⟩
    obtain ⟨its1, r1, hh1, hl1⟩ := k1.heap I hs1
    obtain ⟨its2, r2, hh2, hl2⟩ := k2.heap I hs2
    have D1 := k1.draws (P := X.prog) (w := X.w) (A := X.A.in1) (I.ok.hd hc) i1 a h1 its1.toArray
    have D2 := k2.draws (P := X.prog) (w := X.w) (A := X.A.in1) (I.ok.hd hc) i2 b h2 its2.toArray
    refine ⟨z :: TI :: TO :: ([i1, a] ++ [i2, b]), fun h => k1.here h a its1.toArray ∧ k2.here h b its2.toArray, ⟨hh1, hh2⟩, ?_⟩
    have Gs := GoesN.zip2 (elts := elts) (x1 := kk) (pos := tpos) S D1 D2
    have l1 : its1.toArray.size = xs.length := by rw [List.size_toArray]; exact r1.length.symm
    have l2 : its2.toArray.size = ys.length := by rw [List.size_toArray]; exact r2.length.symm
    rw [l1, l2] at Gs
    refine goesN_st (Gs.mono fun i h₀ v h hi hy => ?_) fun i h => ⟨fun q => ⟨⟨q.1, q.2.1, q.2.2.1, q.2.2.2.1.1, q.2.2.2.2.1⟩, q.2.2.2.1.2, q.2.2.2.2.2⟩, fun q => ⟨q.1.1, q.1.2.1, q.1.2.2.1, ⟨q.1.2.2.2.1, q.2.1⟩, q.1.2.2.2.2, q.2.2⟩⟩
    obtain ⟨T, x, y, rfl, g1, g2, g3, g4⟩ := hy
    have hi1 : i < xs.length := by omega
    have hi2 : i < ys.length := by omega
    obtain ⟨u, f1, f2⟩ := r1.get (i := i) (List.getElem?_eq_getElem hi1)
    obtain ⟨u', f3, f4⟩ := r2.get (i := i) (List.getElem?_eq_getElem hi2)
    have e1 : u = x := Option.some.inj (f1.symm.trans (by simpa using g2))
    have e2 : u' = y := Option.some.inj (f3.symm.trans (by simpa using g3))
    subst e1 e2
    exact ⟨T, u, u', _, _, rfl, g1, List.getElem?_eq_getElem hi1, List.getElem?_eq_getElem hi2, f2, f4, g4⟩
end
/-! ### rules -/
def mIter (d : D) : M (List D) := fun S => match d with
  | .str z => .ok (z.cps.toList.map fun c => .str ⟨#[c]⟩) S
  | .tup ds => .ok ds S
  | .wtup ds => .ok ds S
  | .lst ds => .ok ds S
  | .fro ds => .ok ds S
  | _ => .bad
def iSeq (f : DEnv → M D) : DEnv → M (List D) := fun en => M.bind (f en) mIter
def nums (lo : Int) (n : Nat) : List D := (List.range n).map fun i : Nat => .int (lo + (i : Int))
def mRange1 (ds : List D) : M (List D) := fun S => match ds with
  | [.int j] => if -(2 ^ 62) ≤ j ∧ j < 2 ^ 62 then .ok (nums 0 j.toNat) S else .bad
  | _ => .bad
def mRange2 (ds : List D) : M (List D) := fun S => match ds with
  | [.int i, .int j] => if -(2 ^ 62) ≤ i ∧ i < 2 ^ 62 ∧ -(2 ^ 62) ≤ j ∧ j < 2 ^ 62 then .ok (nums i (j - i).toNat) S else .bad
  | _ => .bad
def iRange1 (f : DEnv → M (List D)) : DEnv → M (List D) := fun en => M.bind (f en) mRange1
def iRange2 (f : DEnv → M (List D)) : DEnv → M (List D) := fun en => M.bind (f en) mRange2
def kindOf : D → Option (Sd × List D)
  | .tup ds => some (.t, ds)
  | .wtup ds => some (.t, ds)
  | .lst ds => some (.l, ds)
  | .fro ds => some (.l, ds)
  | _ => none
def pairUp (xs ys : List D) : List D := (List.zip xs ys).map fun p => .wtup [p.1, p.2]
def mEnum (ds : List D) : M (List D) := fun S => match ds with
  | [d] => match kindOf d with
    | some (_, xs) => .ok (pairUp (nums 0 xs.length) xs) S
    | none => .bad
  | _ => .bad
def iEnumD (f : DEnv → M (List D)) : DEnv → M (List D) := fun en => M.bind (f en) mEnum
def mZip (ds : List D) : M (List D) := fun S => match ds with
  | [d, e] => match kindOf d, kindOf e with
    | some (_, xs), some (_, ys) => .ok (pairUp xs ys) S
    | _, _ => .bad
  | _ => .bad
def iZipD (f : DEnv → M (List D)) : DEnv → M (List D) := fun en => M.bind (f en) mZip
section
variable {K : PySem.W.Frag} {mg : Str → Option Value} {T : List NdefX.NTab} {A A' A1 A2 : AS}
/-- a sequence that stands still: on whatever way it is known -/
theorem still (ok : Ok K mg T A) {d : D} {v : V} {k : Sd} {ds : List D} (h : kindOf d = some (k, ds)) (r : Rep K mg A d v) : ∃ a vs, v = .ref a ∧ k.at_ K A.H a vs ∧ Reps K mg A ds vs ∧ ∀ A2, Ext A A2 → k.at_ K A2.H a vs := by
  cases d with
  | tup xs =>
    cases h
    simp only [Rep] at r
    obtain ⟨a, vs, h1, h2, h3⟩ := r
    exact ⟨a, vs, h1, h2.sq, h3, fun A2 x => (tupAt_ext ok x.tr h2).sq⟩
  | wtup xs =>
    cases h
    simp only [Rep] at r
    obtain ⟨a, vs, h1, h2, h3⟩ := r
    exact ⟨a, vs, h1, h2, h3, fun A2 x => sqT_ext ok x.tr h2⟩
  | lst xs =>
    cases h
    simp only [Rep] at r
    obtain ⟨a, vs, h1, h2, h3, _, h5⟩ := r
    exact ⟨a, vs, h1, .inl (.inl h2), h5, fun A2 x => .inl (.inl (x.keep a _ h2 h3 (fun _ z => nomatch z)))⟩
  | fro xs =>
    cases h
    simp only [Rep] at r
    obtain ⟨a, vs, h1, h2, h3⟩ := r
    refine ⟨a, vs, h1, lstH_sq h2, h3, fun A2 x => ?_⟩
    rcases h2 with ⟨o, h2⟩ | h2
    · exact .inl (.inr ⟨o, x.keep a _ h2 (ok.notup h2 fun _ z => nomatch z) (fun _ z => nomatch z)⟩)
    · exact .inr h2
  | _ => cases h
/-- items that are read where they stand -/
theorem dwalk_at {ds : List D} {vs : List V} {J : It} {G : Hp → Prop} (ok : Ok K mg T A) (r : Reps K mg A ds vs) (w : Walk J vs.length G (YAt vs)) (hG : ∀ A2, Ext A A2 → G A2.H) : DWalk K mg T A ds J := by
  refine ⟨G, YAt vs, by rw [r.length]; exact w, fun A2 _ x => hG A2 x, ?_⟩
  rintro i x A2 H' hi ok2 x2 ⟨rfl, hx⟩
  obtain ⟨v, h1, h2⟩ := r.get (List.getElem?_eq_getElem hi)
  rw [hx] at h1
  cases h1
  exact ⟨A2, ds[i], rfl, rfl, ok2, Ext.refl _, List.getElem?_eq_getElem hi, h2.ext ok x2 _ _⟩
theorem dwalk_pair {xs ys : List D} {vs ws : List V} {src : Hp → List V → List V → Prop} (ok : Ok K mg T A) (r1 : Reps K mg A xs vs) (r2 : Reps K mg A ys ws) (hs : ∀ A2, Ext A A2 → src A2.H vs ws) : DWalk K mg T A (pairUp xs ys) (Itq src) := by
  have hl : (pairUp xs ys).length = min vs.length ws.length := by
    unfold pairUp
    rw [List.length_map, List.length_zip, r1.length, r2.length]
  refine ⟨fun H => src H vs ws, fun i H v H' => ∃ T x y, v = .ref T ∧ H T = none ∧ H' = upd H T (.tup [x, y]) ∧ vs[i]? = some x ∧ ws[i]? = some y, ?_, fun A2 _ x => hs A2 x, ?_⟩
  · rw [hl]
    refine ⟨fun i H hi h => ⟨vs, ws, h, hi⟩, fun H h => ⟨vs, ws, h, rfl⟩, ?_⟩
    rintro i H x H' hi h ⟨T, a, b, h1, h2, h3, h4⟩
    exact ⟨T, a, b, h1, h2, h3, h4 vs ws h⟩
  · rintro i x A2 H' hi ok2 x2 ⟨T, a, b, rfl, hT, rfl, h1, h2⟩
    rw [hl] at hi
    have hi1 : i < xs.length := by rw [r1.length]; omega
    have hi2 : i < ys.length := by rw [r2.length]; omega
    obtain ⟨v, e1, q1⟩ := r1.get (List.getElem?_eq_getElem hi1)
    obtain ⟨w, e2, q2⟩ := r2.get (List.getElem?_eq_getElem hi2)
    rw [h1] at e1
    rw [h2] at e2
    cases e1
    cases e2
    refine ⟨{ A2 with H := upd A2.H T (.tup [a, b]) }, .wtup [xs[i], ys[i]], rfl, rfl, (new_ok ok2 hT).1, (new_ok ok2 hT).2, ?_, ?_⟩
    · unfold pairUp
      have hz : (List.zip xs ys)[i]? = some (xs[i], ys[i]) := by
        rw [List.getElem?_zip_eq_some]
        exact ⟨List.getElem?_eq_getElem hi1, List.getElem?_eq_getElem hi2⟩
      rw [List.getElem?_map, hz]
      rfl
    · refine new_wtup ok2 hT ?_
      simp only [Reps]
      exact ⟨a, [b], rfl, q1.ext ok x2 _ _, b, [], rfl, q2.ext ok x2 _ _, rfl⟩
end
section
variable {T : List NdefX.NTab} {X : Cx} {tg e e2 : Expr} {es : List Expr} {pos p tpos : Pos} {f : DEnv → M D} {fs : DEnv → M (List D)} {elts : List Expr} {kk : Nat}
theorem pi_imp {X : Cx} {tg e : Expr} {t t' : TI} (h : PI X tg e t) (i : ∀ σ H Q, t' σ H Q → t σ H Q) : PI X tg e t' := ⟨fun pins s σ H Q I q => h.run pins s σ H Q I (i _ _ _ q)⟩
theorem iv_seq (he : EV T X e f) : IV T X tg e (iSeq f) := by
  refine ⟨fun pins s σ H R I h => ?_⟩
  obtain ⟨A, en, rfl, ok, re, q⟩ := h
  have q' := Aft.bind q
  cases ef : f en A.S with
  | bad => rw [ef] at q'; exact q'.elim
  | ok d S1 =>
    rw [ef] at q'
    have go : ∀ {R' : V → Hp → Prop}, (∀ A1 v, A1.S = S1 → Ok X.K X.mg T A1 → Ext A A1 → Rep X.K X.mg A1 d v → Aft X.K X.mg T A1 (mIter d A1.S) (fun ds A' => ∀ J, DWalk X.K X.mg T A' ds J → R J A'.H) → R' v A1.H) → tE X.K X.mg T f σ A.H R' := fun {R'} hh =>
      ⟨A, en, rfl, ok, re, by rw [ef]; exact fun A1 e1 ok1 x1 v rv => hh A1 v e1 ok1 x1 rv (q' A1 e1 ok1 x1)⟩
    cases d with
    | str z =>
      refine (pi_str (tg := tg) he).run pins s σ A.H R I (go fun A1 v e1 ok1 x1 rv q1 => ?_)
      simp only [Rep] at rv
      refine ⟨z, rv, Aft.now ok1 q1 _ ?_⟩
      refine ⟨fun _ => True, fun i H v H' => H' = H ∧ ∃ c, z.cps[i]? = some c ∧ v = .str ⟨#[c]⟩, by rw [List.length_map]; exact walk_str, fun _ _ _ => trivial, ?_⟩
      rintro i x A2 H' hi ok2 x2 ⟨rfl, c, hc, rfl⟩
      refine ⟨A2, .str ⟨#[c]⟩, rfl, rfl, ok2, Ext.refl _, ?_, by simp only [Rep]⟩
      rw [List.getElem?_map, Array.getElem?_toList, hc]
      rfl
    | tup ds =>
      refine (pi_tup (tg := tg) he).run pins s σ A.H R I (go fun A1 v e1 ok1 x1 rv q1 => ?_)
      obtain ⟨a, vs, rfl, h1, h2, h3⟩ := still ok1 (show kindOf (.tup ds) = some (.t, ds) from rfl) rv
      exact ⟨a, rfl, ⟨vs, h1⟩, Aft.now ok1 q1 _ (dwalk_at ok1 h2 walk_tup h3)⟩
    | wtup ds =>
      refine (pi_tup (tg := tg) he).run pins s σ A.H R I (go fun A1 v e1 ok1 x1 rv q1 => ?_)
      obtain ⟨a, vs, rfl, h1, h2, h3⟩ := still ok1 (show kindOf (.wtup ds) = some (.t, ds) from rfl) rv
      exact ⟨a, rfl, ⟨vs, h1⟩, Aft.now ok1 q1 _ (dwalk_at ok1 h2 walk_tup h3)⟩
    | lst ds =>
      refine (pi_list (tg := tg) he).run pins s σ A.H R I (go fun A1 v e1 ok1 x1 rv q1 => ?_)
      obtain ⟨a, vs, rfl, h1, h2, h3⟩ := still ok1 (show kindOf (.lst ds) = some (.l, ds) from rfl) rv
      exact ⟨a, rfl, ⟨vs, h1⟩, Aft.now ok1 q1 _ (dwalk_at ok1 h2 walk_list h3)⟩
    | fro ds =>
      refine (pi_list (tg := tg) he).run pins s σ A.H R I (go fun A1 v e1 ok1 x1 rv q1 => ?_)
      obtain ⟨a, vs, rfl, h1, h2, h3⟩ := still ok1 (show kindOf (.fro ds) = some (.l, ds) from rfl) rv
      exact ⟨a, rfl, ⟨vs, h1⟩, Aft.now ok1 q1 _ (dwalk_at ok1 h2 walk_list h3)⟩
    | _ =>
      refine (pi_list (tg := tg) he).run pins s σ A.H R I (go fun A1 v e1 ok1 x1 rv q1 => q1.elim)
theorem dwalk_nums {K : PySem.W.Frag} {mg : Str → Option Value} {T : List NdefX.NTab} {A : AS} (lo : Int) (n : Nat) : DWalk K mg T A (nums lo n) (Itr lo n) := by
  have hl : (nums lo n).length = n := by simp [nums]
  refine ⟨fun _ => True, YFn fun i => .int (lo + i), by rw [hl]; exact walk_range, fun _ _ _ => trivial, ?_⟩
  rintro i x A2 H' hi ok2 x2 ⟨rfl, rfl⟩
  rw [hl] at hi
  exact ⟨A2, .int (lo + i), rfl, rfl, ok2, Ext.refl _, by simp [nums, hi], by simp only [Rep]⟩
theorem iv_range1 (hg : Gl X "range") (hm : X.mg "range" = none) (ha : AV T X [e] fs) (hs : starEach [e] X.env = [(false, eval e X.env)] := by rfl) : IV T X tg (.Call (.Name "range" p) [e] [] pos) (iRange1 fs) := by
  refine pi_imp (pi_range1 hg hm ha hs) ?_
  rintro σ H Q ⟨A, en, rfl, ok, re, q⟩
  refine ⟨A, en, rfl, ok, re, (Aft.bind q).mono fun ds A1 ok1 x1 q1 vs rs => ?_⟩
  unfold mRange1 at q1
  split at q1
  · rename_i j
    simp only [Reps, Rep] at rs
    obtain ⟨_, _, rfl, rfl, rfl⟩ := rs
    split at q1
    · rename_i hb
      exact ⟨j, rfl, hb.1, hb.2, Aft.now ok1 q1 _ (dwalk_nums 0 j.toNat)⟩
    · exact q1.elim
  · exact q1.elim
theorem iv_range2 (hg : Gl X "range") (hm : X.mg "range" = none) (ha : AV T X [e, e2] fs) (hs : starEach [e, e2] X.env = [(false, eval e X.env), (false, eval e2 X.env)] := by rfl) (hs2 : starEach [e2] X.env = [(false, eval e2 X.env)] := by rfl) : IV T X tg (.Call (.Name "range" p) [e, e2] [] pos) (iRange2 fs) := by
  refine pi_imp (pi_range2 hg hm ha hs hs2) ?_
  rintro σ H Q ⟨A, en, rfl, ok, re, q⟩
  refine ⟨A, en, rfl, ok, re, (Aft.bind q).mono fun ds A1 ok1 x1 q1 vs rs => ?_⟩
  unfold mRange2 at q1
  split at q1
  · rename_i i j
    simp only [Reps, Rep] at rs
    obtain ⟨_, _, rfl, rfl, _, _, rfl, rfl, rfl⟩ := rs
    split at q1
    · rename_i hb
      exact ⟨i, j, rfl, hb, Aft.now ok1 q1 _ (dwalk_nums i (j - i).toNat)⟩
    · exact q1.elim
  · exact q1.elim
theorem iv_enum (hg : Gl X "enumerate") (hm : X.mg "enumerate" = none) (ha : AV T X [e] fs) (hs : starEach [e] X.env = [(false, eval e X.env)] := by rfl) : IV T X (.Tuple elts kk tpos) (.Call (.Name "enumerate" p) [e] [] pos) (iEnumD fs) := by
  refine ⟨fun pins s σ H R I h => ?_⟩
  obtain ⟨A, en, rfl, ok, re, q⟩ := h
  have step : tA X.K X.mg T fs σ A.H fun vs H1 => ∃ k a xs, vs = [.ref a] ∧ Sd.at_ X.K H1 a xs k ∧ R (Itq (srcE X.K k a)) H1 := by
    refine ⟨A, en, rfl, ok, re, (Aft.bind q).mono fun ds A1 ok1 x1 q1 vs rs => ?_⟩
    unfold mEnum at q1
    split at q1
    · rename_i d
      cases hk : kindOf d with
      | none => rw [hk] at q1; exact q1.elim
      | some kd =>
        obtain ⟨k, xs⟩ := kd
        rw [hk] at q1
        simp only [Reps] at rs
        obtain ⟨v, _, rfl, rv, rfl⟩ := rs
        obtain ⟨a, ws, rfl, h1, h2, h3⟩ := still ok1 hk rv
        refine ⟨k, a, ws, rfl, h1, Aft.now ok1 q1 _ (dwalk_pair (vs := numV ws.length) ok1 ?_ h2 fun A2 x => ⟨rfl, h3 A2 x⟩)⟩
        rw [h2.length]
        unfold nums numV
        refine reps_map (fun i => ?_) _
        simp only [Rep, Int.zero_add]
    · exact q1.elim
  refine Call_ (ld_blt I hg hm boot_enumerate (PyProof.Rows.callWith_type1 (thn (ha.run pos pins s σ A.H _ I step) fun us s1 ⟨vs, H1, I1, r1, q1⟩ => ?_) hs rfl))
  obtain ⟨k, a, xs, rfl, hq, q1⟩ := q1
  cases r1 with
  | cons r rr =>
    cases rr
    cases r
    obtain ⟨its, r, hh, hl⟩ := k.heap I1 hq
    refine enum_begins1 (k.begins a its.toArray) hh fun h' he ho hk => wpAny_pyIter_enum he ?_
    have I2 : Inv X pins σ H1 { s1 with heap := h' } := I1.kept (t' := s1.toks) hk
    refine ⟨s1.heap.objs.size + 1, [s1.heap.objs.size + 1, s1.heap.objs.size], _, _, H1, rfl, I2, turn_e k a (s1.heap.objs.size + 1) s1.heap.objs.size (Nat.succ_ne_self _) (Nat.ne_of_lt (Nat.lt_succ_of_lt hl)) (Nat.ne_of_lt hl), ⟨⟨.none, by simpa using he⟩, k.onNew ho⟩, fun b hb => ?_, q1⟩
    have e' : b = s1.heap.objs.size + 1 ∨ b = s1.heap.objs.size := by simpa using hb
    have hle : s1.heap.objs.size ≤ b := by
      rcases e' with z | z
      · rw [z]; exact Nat.le_add_right _ _
      · rw [z]; exact Nat.le_refl _
    exact I1.fpOk hle (I1.hok.fresh hle)
theorem iv_zip (hg : Gl X "zip") (hm : X.mg "zip" = none) (ha : AV T X [e, e2] fs) (hs : starEach [e, e2] X.env = (false, eval e X.env) :: starEach [e2] X.env := by rfl) (hpl : (backTo pos (starEach [e2] X.env)).any (·.1) = false := by rfl) :
    IV T X (.Tuple elts kk tpos) (.Call (.Name "zip" p) [e, e2] [] pos) (iZipD fs) := by
  refine ⟨fun pins s σ H R I h => ?_⟩
  obtain ⟨A, en, rfl, ok, re, q⟩ := h
  have step : tA X.K X.mg T fs σ A.H fun vs H1 => ∃ k1 k2 a b xs ys, vs = [.ref a, .ref b] ∧ Sd.at_ X.K H1 a xs k1 ∧ Sd.at_ X.K H1 b ys k2 ∧ R (Itq (srcZ X.K k1 k2 a b)) H1 := by
    refine ⟨A, en, rfl, ok, re, (Aft.bind q).mono fun ds A1 ok1 x1 q1 vs rs => ?_⟩
    unfold mZip at q1
    split at q1
    · rename_i d e
      cases hk : kindOf d with
      | none => simp only [hk] at q1; exact q1.elim
      | some kd =>
        cases hk2 : kindOf e with
        | none => simp only [hk, hk2] at q1; exact q1.elim
        | some kd2 =>
          obtain ⟨k, xs⟩ := kd
          obtain ⟨k2, ys⟩ := kd2
          simp only [hk, hk2] at q1
          simp only [Reps] at rs
          obtain ⟨v, _, rfl, rv, v2, _, rfl, rv2, rfl⟩ := rs
          obtain ⟨a, ws, rfl, h1, h2, h3⟩ := still ok1 hk rv
          obtain ⟨b, ws2, rfl, g1, g2, g3⟩ := still ok1 hk2 rv2
          exact ⟨k, k2, a, b, ws, ws2, rfl, h1, g1, Aft.now ok1 q1 _ (dwalk_pair ok1 h2 g2 fun A2 x => ⟨h3 A2 x, g3 A2 x⟩)⟩
    · exact q1.elim
  refine Call_ (ld_blt I hg hm PyProof.Rows.boot_zip (PyProof.Rows.callWith_type1 (thn (ha.run pos pins s σ A.H _ I step) fun us s1 ⟨vs, H1, I1, r1, q1⟩ => ?_) hs hpl))
  obtain ⟨k1, k2, a, b, xs, ys, rfl, hq1, hq2, q1⟩ := q1
  cases r1 with
  | cons r rr =>
    cases rr with
    | cons r' rr =>
      cases rr
      cases r
      cases r'
      obtain ⟨its1, r1, hh1, hl1⟩ := k1.heap I1 hq1
      obtain ⟨its2, r2, hh2, hl2⟩ := k2.heap I1 hq2
      refine zip_begins2 (k1.begins a its1.toArray) (k2.begins b its2.toArray) hh1 hh2 fun h' hz hTI hTO h1 h2 hsz hk => wpAny_pyIter_zip hz ?_
      have I2 : Inv X pins σ H1 { s1 with heap := h' } := I1.kept (t' := s1.toks) hk
      refine ⟨s1.heap.objs.size + 4, [s1.heap.objs.size + 4, s1.heap.objs.size + 2, s1.heap.objs.size + 3, s1.heap.objs.size, s1.heap.objs.size + 1], _, _, H1, rfl, I2,
        turn_z k1 k2 a b _ _ _ _ _ (zip_sep2 (fun c hc => by simp at hc; rw [hc]; exact hl1) (fun c hc => by simp at hc; rw [hc]; exact hl2)) (Nat.ne_of_lt hl1) (Nat.ne_of_lt (Nat.lt_succ_of_lt hl2)), ⟨hz, hTI, ⟨_, _, hTO⟩, k1.onNew h1, k2.onNew h2⟩, fun c hc => ?_, q1⟩
      have hle : s1.heap.objs.size ≤ c := by
        simp at hc
        rcases hc with z | z | z | z | z <;> rw [z] <;> first | exact Nat.le_refl _ | exact Nat.le_add_right _ _
      exact I1.fpOk hle (I1.hok.fresh hle)
end
/-! ### comprehensions -/
def compL (g : D → DEnv → M DEnv) (t : DEnv → M Bool) (f : DEnv → M D) (en : DEnv) : List D → List D → M (List D)
  | [], acc => fun S => .ok acc S
  | d :: ds, acc => fun S => match g d en S with
    | .ok en1 S1 => match t en1 S1 with
      | .ok true S2 => match f en1 S2 with
        | .ok x S3 => if acc.length < LINE then compL g t f en ds (acc ++ [x]) S3 else .bad
        | .bad => .bad
      | .ok false S2 => compL g t f en ds acc S2
      | .bad => .bad
    | .bad => .bad
def tYesM : DEnv → M Bool := fun _ S => .ok true S
/-- [f for g in i if t]; ws: the comprehension's own slots -/
def eComp (ws : List Nat) (i : DEnv → M (List D)) (g : D → DEnv → M DEnv) (t : DEnv → M Bool) (f : DEnv → M D) : DEnv → M D := fun en => M.bind (i en) fun ds => M.bind (compL g t f (wipeD en ws) ds []) fun xs S => .ok (.lst xs) S
def eCompC (ws : List Nat) (i : DEnv → M (List D)) (g : D → DEnv → M DEnv) (t : DEnv → M Bool) (f : DEnv → M D) : DEnv → M D := fun en => M.bind (i en) fun ds => M.bind (compL g t f (wipeD en ws) ds []) fun xs S => .ok (.cel S.length) (S ++ [some xs])
section
variable {K : PySem.W.Frag} {mg : Str → Option Value} {T : List NdefX.NTab} {A A' A1 A2 : AS}
theorem REnv.wipe {en : DEnv} {σ : L2.St} (h : REnv K mg A en σ) : ∀ ws : List Nat, REnv K mg A (wipeD en ws) (wipe σ ws)
  | [] => h
  | v :: vs => by
    have ih := REnv.wipe h vs
    unfold wipeD L2.wipe
    refine ⟨by simp [ih.1], fun i d q => ?_⟩
    by_cases hv : v = i
    · subst hv
      by_cases hl : v < (wipeD en vs).length
      · rw [List.getElem?_set_self hl] at q; cases q
      · rw [List.getElem?_eq_none (by simpa using hl)] at q; cases q
    · rw [List.getElem?_set_ne hv] at q
      obtain ⟨w, a, b⟩ := ih.2 i d q
      exact ⟨w, by rw [List.getElem?_set_ne hv]; exact a, b⟩
/-- the list that is being made lies at p -/
abbrev AS.mk2 (A : AS) (p : Addr) (vs : List V) : AS := { A with X := p :: A.X, H := upd A.H p (.lst vs) }
theorem hide_ok (ok : Ok K mg T A) {p : Addr} {vs : List V} (hp : A.H p = none) : Ok K mg T (A.mk2 p vs) ∧ Ext A (A.mk2 p vs) := by
  have ne : ∀ {a : Addr} {u : HO}, A.H a = some u → a ≠ p := fun h => ne_of_none h hp
  have ex : Ext A (A.mk2 p vs) := ⟨fun _ _ h => h, fun _ h => List.mem_cons_of_mem _ h, fun a h l => by
      rcases List.mem_cons.mp l with z | z
      · rw [z] at h; exact (h.not hp).elim
      · exact z, fun a u h _ _ => by show upd A.H p _ a = some u; rw [upd_ne (ne h)]; exact h, fun _ _ h => h, fun a h => seen_upd h hp⟩
  refine ⟨⟨ok.len, fun i a c h1 h2 => ?_, ok.inj, fun a ha => ?_, tabs_new ok.tab hp⟩, ex⟩
  · obtain ⟨ws, e, r⟩ := ok.cell i a c h1 h2
    exact ⟨ws, by show upd A.H p _ a = _; rw [upd_ne (ne e)]; exact e, Reps.ext ok ex _ _ r⟩
  · rcases List.mem_cons.mp ha with z | z
    · subst z
      exact ⟨⟨vs, upd_same⟩, fun l => ok.none_live hp l⟩
    · obtain ⟨⟨ws, h1⟩, h2⟩ := ok.hid a z
      exact ⟨⟨ws, by show upd A.H p _ a = _; rw [upd_ne (ne h1)]; exact h1⟩, h2⟩
/-- it grows -/
theorem grow_ok (ok : Ok K mg T A) {p : Addr} {vs ws : List V} (hx : p ∈ A.X) : Ok K mg T { A with H := upd A.H p (.lst ws) } ∧ Tr A { A with H := upd A.H p (.lst ws) } := by
  have np := (ok.hid p hx).2
  have tr : Tr A { A with H := upd A.H p (.lst ws) } := ⟨fun _ _ h => h, fun _ _ h => h, fun a u h _ n _ => by
    show upd A.H p _ a = some u
    rw [upd_ne (a := p) (b := a) (fun e => n (by rw [e]; exact hx))]; exact h, fun _ _ _ h => h⟩
  refine ⟨⟨ok.len, fun i a c h1 h2 => ?_, ok.inj, fun a ha => ?_, let ⟨⟨_, e⟩, _⟩ := ok.hid p hx; tabs_lst ok.tab e⟩, tr⟩
  · obtain ⟨us, e, r⟩ := ok.cell i a c h1 h2
    refine ⟨us, ?_, Reps.tr ok tr _ _ r⟩
    show upd A.H p _ a = _
    rw [upd_ne (a := p) (b := a) (fun e => np (by rw [← e]; exact ⟨i, c, h1, h2⟩))]
    exact e
  · obtain ⟨⟨us, h1⟩, h2⟩ := ok.hid a ha
    refine ⟨?_, h2⟩
    by_cases z : a = p
    · exact ⟨ws, by show upd A.H p _ a = _; rw [z, upd_same]⟩
    · exact ⟨us, by show upd A.H p _ a = _; rw [upd_ne z]; exact h1⟩
/-- it is done: p is shown -/
theorem show_ok (ok : Ok K mg T A) {p : Addr} {vs : List V} {ds : List D} (hx : p ∈ A.X) (hp : A.H p = some (.lst vs)) (r : Reps K mg A ds vs) (ok1 : Ok K mg T A1) (x : Ext A1 A) (h1 : A1.H p = none) :
    Ok K mg T { A with X := A.X.filter (· ≠ p) } ∧ Ext A1 { A with X := A.X.filter (· ≠ p) } ∧ Rep K mg { A with X := A.X.filter (· ≠ p) } (.lst ds) (.ref p) := by
  have tr : Tr A { A with X := A.X.filter (· ≠ p) } := ⟨fun _ _ h => h, fun a _ h => (List.mem_filter.mp h).1, fun _ _ h _ _ _ => h, fun _ _ _ h => h⟩
  refine ⟨⟨ok.len, fun i a c h1 h2 => ?_, ok.inj, fun a ha => ok.hid a (List.mem_filter.mp ha).1, ok.tab⟩, ⟨x.pre, fun a h => ?_, fun a h l => x.hid a h (List.mem_filter.mp l).1, x.keep, x.old, x.some⟩, ?_⟩
  · obtain ⟨us, e, r⟩ := ok.cell i a c h1 h2
    exact ⟨us, e, Reps.tr ok tr _ _ r⟩
  · refine List.mem_filter.mpr ⟨x.sup a h, ?_⟩
    have : a ≠ p := fun z => ok1.none_hid h1 (z ▸ h)
    simpa using this
  · simp only [Rep]
    exact ⟨p, vs, rfl, hp, (ok.hid p hx).2, fun z => by simpa using (List.mem_filter.mp z).2, Reps.tr ok tr _ _ r⟩
/-- it is done: p is a new cell -/
theorem show_cel (ok : Ok K mg T A) {p : Addr} {vs : List V} {ds : List D} (hx : p ∈ A.X) (hp : A.H p = some (.lst vs)) (r : Reps K mg A ds vs) (ok1 : Ok K mg T A1) (x : Ext A1 A) (h1 : A1.H p = none) :
    Ok K mg T { A with S := A.S ++ [some ds], ρ := A.ρ ++ [p], X := A.X.filter (· ≠ p) } ∧ Ext A1 { A with S := A.S ++ [some ds], ρ := A.ρ ++ [p], X := A.X.filter (· ≠ p) } ∧ Rep K mg { A with S := A.S ++ [some ds], ρ := A.ρ ++ [p], X := A.X.filter (· ≠ p) } (.cel A.S.length) (.ref p) := by
  have pre : ∀ i a, A.ρ[i]? = some a → (A.ρ ++ [p])[i]? = some a := fun i a h => by
    rw [List.getElem?_append_left (List.getElem?_eq_some_iff.mp h).1]; exact h
  have np := (ok.hid p hx).2
  have key : ∀ {i a c}, (A.S ++ [some ds])[i]? = some (some c) → (A.ρ ++ [p])[i]? = some a → (A.S[i]? = some (some c) ∧ A.ρ[i]? = some a) ∨ (i = A.S.length ∧ a = p ∧ c = ds) := fun {i a c} h1 h2 => by
    rcases get_app h1 with q1 | ⟨q1, e⟩
    · have hi := (List.getElem?_eq_some_iff.mp q1).1
      rw [List.getElem?_append_left (by rw [ok.len]; exact hi)] at h2
      exact .inl ⟨q1, h2⟩
    · rw [List.getElem?_append_right (by rw [ok.len, q1]; exact Nat.le_refl _), ok.len, q1, Nat.sub_self] at h2
      exact .inr ⟨q1, by simpa using h2.symm, by simpa using e.symm⟩
  have lv : ∀ {a}, ({ A with S := A.S ++ [some ds], ρ := A.ρ ++ [p], X := A.X.filter (· ≠ p) } : AS).live a → A.live a ∨ a = p := fun {a} ⟨i, c, q1, q2⟩ => by
    rcases key q1 q2 with ⟨z1, z2⟩ | ⟨_, z, _⟩
    · exact .inl ⟨i, c, z1, z2⟩
    · exact .inr z
  have tr : Tr A { A with S := A.S ++ [some ds], ρ := A.ρ ++ [p], X := A.X.filter (· ≠ p) } := ⟨pre, fun a _ h => (List.mem_filter.mp h).1, fun _ _ h _ _ _ => h, fun a _ n l => (lv l).elim id fun e => absurd (by rw [e]; exact hx) n⟩
  refine ⟨⟨by simp [ok.len], fun i a c q1 q2 => ?_, fun i j a c d q1 q2 q3 q4 => ?_, fun a ha => ?_, ok.tab⟩, ⟨fun i a h => pre i a (x.pre i a h), fun a h => ?_, fun a h l => x.hid a h (List.mem_filter.mp l).1, x.keep, fun a h l => (lv l).elim (x.old a h) fun e => (h.not (by rw [e]; exact h1)).elim, x.some⟩, ?_⟩
  · rcases key q1 q2 with ⟨z1, z2⟩ | ⟨_, z2, z3⟩
    · obtain ⟨us, e, r'⟩ := ok.cell i a c z1 z2
      exact ⟨us, e, Reps.tr ok tr _ _ r'⟩
    · subst z2 z3
      exact ⟨vs, hp, Reps.tr ok tr _ _ r⟩
  · rcases key q1 q3 with ⟨z1, z2⟩ | ⟨z1, z2, _⟩
    · rcases key q2 q4 with ⟨y1, y2⟩ | ⟨y1, y2, _⟩
      · exact ok.inj i j a c d z1 y1 z2 y2
      · subst y2; exact absurd ⟨i, c, z1, z2⟩ np
    · rcases key q2 q4 with ⟨y1, y2⟩ | ⟨y1, y2, _⟩
      · subst z2; exact absurd ⟨j, d, y1, y2⟩ np
      · rw [z1, y1]
  · obtain ⟨z1, z2⟩ := List.mem_filter.mp ha
    obtain ⟨h3, h4⟩ := ok.hid a z1
    refine ⟨h3, fun l => ?_⟩
    rcases lv l with q | q
    · exact h4 q
    · rw [q] at z2; simp at z2
  · refine List.mem_filter.mpr ⟨x.sup a h, ?_⟩
    have : a ≠ p := fun z => ok1.none_hid h1 (z ▸ h)
    simpa using this
  · simp only [Rep]
    exact ⟨p, rfl, by rw [List.getElem?_append_right (by rw [ok.len]; exact Nat.le_refl _), ok.len, Nat.sub_self]; rfl⟩
end
section
variable {T : List NdefX.NTab} {X : Cx} {elt tg iter cond : Expr} {scope : Scope} {own : List (Str × Nat)} {pos : Pos} {fi : DEnv → M (List D)} {g : D → DEnv → M DEnv} {f : DEnv → M D} {ft : DEnv → M Bool} {ks : List Nat} {ifs : List Expr}
theorem wipe_wipe (σ : L2.St) (ws : List Nat) : wipe (wipe σ ws) ws = wipe σ ws := by
  apply List.ext_getElem?
  intro k
  rw [wipe_get, wipe_get]
  by_cases hk : k ∈ ws
  · simp only [hk, if_true, Option.map_map]
    rfl
  · simp only [hk, if_false]
/-- the core: from the meanings of the parts to the reading of a comprehension -/
theorem comp_of {K : PySem.W.Frag} {mg : Str → Option Value} {T : List NdefX.NTab} {tt : TT} {σ : L2.St} {H : Hp} {Q : VK} {ws : List Nat} (hk : ∀ k ∈ ks, k ∈ ws) (htt : ∀ σ H Q, tT K mg T ft σ H Q → tt σ H Q)
    (h : ∃ A en, A.H = H ∧ Ok K mg T A ∧ REnv K mg A en σ ∧ Aft K mg T A (fi en A.S) fun ds A1 => Aft K mg T A1 (compL g ft f (wipeD en ws) ds [] A1.S) fun xs A2 => ∀ p vs, A1.H p = none → p ∈ A2.X → A2.H p = some (.lst vs) → Reps K mg A2 xs vs → Q (.ref p) A2.H) :
    tLc (tI K mg T fi) (tG K mg T ks g) tt (tE K mg T f) ws σ H Q := by
  obtain ⟨A, en, rfl, ok, re, q⟩ := h
  refine ⟨A, en, rfl, ok, re, q.mono fun ds A1 ok1 x1 q1 J hJ p hp => ?_⟩
  obtain ⟨G, Y, w, hG, hY⟩ := hJ
  have re1 : REnv K mg A1 (wipeD en ws) (wipe σ ws) := (re.ext ok x1).wipe ws
  refine lc_it w (fun i H => ∃ A2 acc vs, A2.H = H ∧ Ok K mg T A2 ∧ Ext A1 A2 ∧ p ∈ A2.X ∧ A2.H p = some (.lst vs) ∧ Reps K mg A2 acc vs ∧ Aft K mg T A1 (compL g ft f (wipeD en ws) (ds.drop i) acc A2.S) fun xs A3 => ∀ vs, p ∈ A3.X → A3.H p = some (.lst vs) → Reps K mg A3 xs vs → Q (.ref p) A3.H) ?_ ?_ ?_ ?_
  · obtain ⟨okh, xh⟩ := hide_ok (vs := []) ok1 hp
    exact ⟨A1.mk2 p [], [], [], rfl, okh, xh, List.mem_cons_self, upd_same, by simp only [Reps], q1.mono fun xs A3 _ _ q3 vs h1 h2 h3 => q3 p vs hp h1 h2 h3⟩
  · rintro i H2 _ ⟨A2, acc, vs, rfl, ok2, x2, _, _, _, _⟩
    exact hG A2 ok2 x2
  · rintro i x H2 H3 hi ⟨A2, acc, vs, rfl, ok2, x2, hX, hpv, racc, q2⟩ hy
    obtain ⟨A3, d, rfl, e3, ok3, x3, hd, rd⟩ := hY i x A2 H3 hi ok2 x2 hy
    rw [drop_cons hd] at q2
    simp only [compL] at q2
    refine ⟨A3, d, wipeD en ws, rfl, ok3, rd, (re1.ext ok1 x2).ext ok2 x3, ?_⟩
    rw [e3]
    cases eg : g d (wipeD en ws) A2.S with
    | bad => rw [eg] at q2; exact q2.elim
    | ok en1 S1 =>
      rw [eg] at q2
      simp only [] at q2
      intro A4 e4 ok4 x4 σ4 b4 re4
      refine ⟨by rw [wipe_but (b4.mono hk), wipe_wipe], htt _ _ _ ⟨A4, en1, rfl, ok4, re4, ?_⟩⟩
      have x24 : Ext A2 A4 := x3.trans x4
      rw [e4]
      cases et : ft en1 S1 with
      | bad => rw [et] at q2; exact q2.elim
      | ok b S2 =>
        rw [et] at q2
        intro A5 e5 ok5 x5
        have x25 := x24.trans x5
        cases b with
        | false =>
          refine iteF ⟨A5, acc, vs, rfl, ok5, x2.trans x25, x25.sup p hX, x25.keep p _ hpv (ok2.hid p hX).2 (fun _ z => nomatch z), racc.ext ok2 x25 _ _, ?_⟩
          rw [e5]
          exact q2
        | true =>
          simp only [] at q2
          refine iteT ⟨A5, en1, rfl, ok5, re4.ext ok4 x5, ?_⟩
          rw [e5]
          cases ef : f en1 S2 with
          | bad => rw [ef] at q2; exact q2.elim
          | ok z S3 =>
            rw [ef] at q2
            simp only [] at q2
            intro A6 e6 ok6 x6 y ry
            have x26 := x25.trans x6
            have hX6 := x26.sup p hX
            have hp6 := x26.keep p _ hpv (ok2.hid p hX).2 (fun _ z => nomatch z)
            by_cases hlen : acc.length < LINE
            · rw [if_pos hlen] at q2
              obtain ⟨ok7, tr7⟩ := grow_ok (ws := vs ++ [y]) ok6 (p := p) (vs := vs) hX6
              refine ⟨vs, hp6, by rw [← racc.length, line_eq]; exact hlen, { A6 with H := upd A6.H p (.lst (vs ++ [y])) }, acc ++ [z], vs ++ [y], rfl, ok7, ?_, hX6, upd_same, ?_, ?_⟩
              · have x16 := x2.trans x26
                refine ⟨x16.pre, x16.sup, x16.hid, fun a u h n t => ?_, x16.old, fun a h => ?_⟩
                · show upd A6.H p _ a = some u
                  rw [upd_ne (ne_of_none h hp)]
                  exact x16.keep a u h n t
                · exact seen_put (x16.some a h)
              · refine Reps.append (Reps.tr ok6 tr7 _ _ (racc.ext ok2 x26 _ _)) ?_
                simp only [Reps]
                exact ⟨y, [], rfl, Rep.tr ok6 tr7 _ _ ry, rfl⟩
              · show Aft K mg T A1 (compL g ft f (wipeD en ws) (ds.drop (i + 1)) (acc ++ [z]) A6.S) _
                rw [e6]
                exact q2
            · rw [if_neg hlen] at q2
              exact q2.elim
  · rintro H2 ⟨A2, acc, vs, rfl, ok2, x2, hX, hpv, racc, q2⟩
    rw [List.drop_length] at q2
    exact q2 A2 rfl ok2 x2 vs hX hpv racc
theorem comp_lst {K : PySem.W.Frag} {mg : Str → Option Value} {T : List NdefX.NTab} {tt : TT} {σ : L2.St} {H : Hp} {Q : VK} {ws : List Nat} (hk : ∀ k ∈ ks, k ∈ ws) (htt : ∀ σ H Q, tT K mg T ft σ H Q → tt σ H Q) (h : tE K mg T (eComp ws fi g ft f) σ H Q) :
    tLc (tI K mg T fi) (tG K mg T ks g) tt (tE K mg T f) ws σ H Q := by
  refine comp_of hk htt ?_
  obtain ⟨A, en, rfl, ok, re, q⟩ := h
  refine ⟨A, en, rfl, ok, re, (Aft.bind q).mono fun ds A1 ok1 x1 q1 => (Aft.bindO q1).mono fun xs A2 ok2 x2 q2 p vs h1 h2 h3 h4 => ?_⟩
  obtain ⟨okS, xS, rS⟩ := show_ok ok2 h2 h3 h4 ok1 x2 h1
  exact q2 { A2 with X := A2.X.filter (· ≠ p) } rfl okS xS _ rS
theorem comp_cel {K : PySem.W.Frag} {mg : Str → Option Value} {T : List NdefX.NTab} {tt : TT} {σ : L2.St} {H : Hp} {Q : VK} {ws : List Nat} (hk : ∀ k ∈ ks, k ∈ ws) (htt : ∀ σ H Q, tT K mg T ft σ H Q → tt σ H Q) (h : tE K mg T (eCompC ws fi g ft f) σ H Q) :
    tLc (tI K mg T fi) (tG K mg T ks g) tt (tE K mg T f) ws σ H Q := by
  refine comp_of hk htt ?_
  obtain ⟨A, en, rfl, ok, re, q⟩ := h
  refine ⟨A, en, rfl, ok, re, (Aft.bind q).mono fun ds A1 ok1 x1 q1 => (Aft.bindO q1).mono fun xs A2 ok2 x2 q2 p vs h1 h2 h3 h4 => ?_⟩
  obtain ⟨okS, xS, rS⟩ := show_cel ok2 h2 h3 h4 ok1 x2 h1
  exact q2 { A2 with S := A2.S ++ [some xs], ρ := A2.ρ ++ [p], X := A2.X.filter (· ≠ p) } rfl okS xS _ rS
theorem yes_of {K : PySem.W.Frag} {mg : Str → Option Value} {T : List NdefX.NTab} : ∀ σ H Q, tT K mg T tYesM σ H Q → tYes σ H Q := by
  rintro σ H Q ⟨A, en, rfl, ok, re, q⟩
  exact Aft.now ok q
/-- the tests of a comprehension, with their meaning -/
structure IfV (T : List NdefX.NTab) (X : Cx) (ifs : List Expr) (ft : DEnv → M Bool) : Prop where
  run : ∃ tt, PTs X ifs tt ∧ ∀ σ H Q, tT X.K X.mg T ft σ H Q → tt σ H Q
abbrev Blk (X : Cx) (s : Shared) (H : Hp) (scope : Scope) (C : Addr) (cl : List (Str × Addr)) (fp : List Addr) : Cx := X.blk s H scope (compEnvC scope cl C X.env) fp
theorem pts_imp {X : Cx} {ifs : List Expr} {t t' : TT} (h : PTs X ifs t) (i : ∀ σ H Q, t' σ H Q → t σ H Q) : PTs X ifs t' := ⟨fun pins s σ H Q I q => h.run pins s σ H Q I (i _ _ _ q)⟩
theorem ifs_none : PTs X [] (tT X.K X.mg T tYesM) := pts_imp pts_nil yes_of
theorem ifs_one (h : TV T X cond ft) : PTs X [cond] (tT X.K X.mg T ft) := pts_one h
theorem ev_comp (hc : X.calm = true) (hN : X.N.Nodup) (hi : IV T X tg iter fi) (ok : BlkOk X.N X.env.scope scope own)
    (hg : ∀ (s : Shared) (H : Hp) (C : Addr) (cl : List (Str × Addr)) (fp : List Addr), GV T (Blk X s H scope C cl fp) tg ks g) (ht : ∀ (s : Shared) (H : Hp) (C : Addr) (cl : List (Str × Addr)) (fp : List Addr), PTs (Blk X s H scope C cl fp) ifs (tT X.K X.mg T ft))
    (he : ∀ (s : Shared) (H : Hp) (C : Addr) (cl : List (Str × Addr)) (fp : List Addr), EV T (Blk X s H scope C cl fp) elt f) (hk : ∀ k ∈ ks, k ∈ own.map (·.2) := by decide) (hs : ∀ x, foldedSetIterable iter X.env x = pure x := by intro _; rfl) :
    EV T X (.ListComp elt [⟨tg, iter, ifs, 0⟩] scope pos) (eComp (own.map (·.2)) fi g ft f) := pe_imp (pe_lc hc hN hi ok hg ht he hs) fun σ H Q q => comp_lst hk (fun _ _ _ z => z) q
theorem ev_compC (hc : X.calm = true) (hN : X.N.Nodup) (hi : IV T X tg iter fi) (ok : BlkOk X.N X.env.scope scope own)
    (hg : ∀ (s : Shared) (H : Hp) (C : Addr) (cl : List (Str × Addr)) (fp : List Addr), GV T (Blk X s H scope C cl fp) tg ks g) (ht : ∀ (s : Shared) (H : Hp) (C : Addr) (cl : List (Str × Addr)) (fp : List Addr), PTs (Blk X s H scope C cl fp) ifs (tT X.K X.mg T ft))
    (he : ∀ (s : Shared) (H : Hp) (C : Addr) (cl : List (Str × Addr)) (fp : List Addr), EV T (Blk X s H scope C cl fp) elt f) (hk : ∀ k ∈ ks, k ∈ own.map (·.2) := by decide) (hs : ∀ x, foldedSetIterable iter X.env x = pure x := by intro _; rfl) :
    EV T X (.ListComp elt [⟨tg, iter, ifs, 0⟩] scope pos) (eCompC (own.map (·.2)) fi g ft f) := pe_imp (pe_lc hc hN hi ok hg ht he hs) fun σ H Q q => comp_cel hk (fun _ _ _ z => z) q
theorem gname_of {K : PySem.W.Frag} {mg : Str → Option Value} {T : List NdefX.NTab} {e : DEnv → M D} {i : Nat} {B : Ends} {σ : L2.St} {H : Hp} (h : tS K mg T (sAsg e (gN i)) B σ H) : tE K mg T e σ H fun x H1 => gName i x σ H1 B.nx := by
  obtain ⟨A, en, rfl, ok, re, q⟩ := h
  exact ⟨A, en, rfl, ok, re, (SAft.bind q).mono fun d A1 ok1 x1 q1 v rv => Aft.now ok1 (SAft.bind q1) A1 _ rfl ok1 (Ext.refl A1) ((re.ext ok x1).set i rv)⟩
/-- y = [..] on one line -/
theorem sv_comp {i : Nat} {y : Str} {py spos : Pos} (hc : X.calm = true) (hN : X.N.Nodup) (hy : X.N[i]? = some y) (hyl : X.env.scope.names.lookup y = some .local)
    (hsw : swapsWith (.ListComp elt [⟨tg, iter, ifs, 0⟩] scope pos) (some (.Name y py)) spos.line X.env = pure true) (hi : IV T X tg iter fi) (ok : BlkOk X.N X.env.scope scope own)
    (hg : ∀ (s : Shared) (H : Hp) (C : Addr) (cl : List (Str × Addr)) (fp : List Addr), GV T (Blk X s H scope C cl fp) tg ks g) (ht : ∀ (s : Shared) (H : Hp) (C : Addr) (cl : List (Str × Addr)) (fp : List Addr), PTs (Blk X s H scope C cl fp) ifs (tT X.K X.mg T ft))
    (he : ∀ (s : Shared) (H : Hp) (C : Addr) (cl : List (Str × Addr)) (fp : List Addr), EV T (Blk X s H scope C cl fp) elt f) (hk : ∀ k ∈ ks, k ∈ own.map (·.2) := by decide) (hs : ∀ x, foldedSetIterable iter X.env x = pure x := by intro _; rfl) :
    SV T X (.Assign [.Name y py] (.ListComp elt [⟨tg, iter, ifs, 0⟩] scope pos) spos) (sAsg (eComp (own.map (·.2)) fi g ft f) (gN i)) :=
  ps_imp (ps_setLc hc hN hy hyl hsw hi ok hg ht he hs) fun B σ H q => comp_lst hk (fun _ _ _ z => z) (gname_of q)
theorem sv_compC {i : Nat} {y : Str} {py spos : Pos} (hc : X.calm = true) (hN : X.N.Nodup) (hy : X.N[i]? = some y) (hyl : X.env.scope.names.lookup y = some .local)
    (hsw : swapsWith (.ListComp elt [⟨tg, iter, ifs, 0⟩] scope pos) (some (.Name y py)) spos.line X.env = pure true) (hi : IV T X tg iter fi) (ok : BlkOk X.N X.env.scope scope own)
    (hg : ∀ (s : Shared) (H : Hp) (C : Addr) (cl : List (Str × Addr)) (fp : List Addr), GV T (Blk X s H scope C cl fp) tg ks g) (ht : ∀ (s : Shared) (H : Hp) (C : Addr) (cl : List (Str × Addr)) (fp : List Addr), PTs (Blk X s H scope C cl fp) ifs (tT X.K X.mg T ft))
    (he : ∀ (s : Shared) (H : Hp) (C : Addr) (cl : List (Str × Addr)) (fp : List Addr), EV T (Blk X s H scope C cl fp) elt f) (hk : ∀ k ∈ ks, k ∈ own.map (·.2) := by decide) (hs : ∀ x, foldedSetIterable iter X.env x = pure x := by intro _; rfl) :
    SV T X (.Assign [.Name y py] (.ListComp elt [⟨tg, iter, ifs, 0⟩] scope pos) spos) (sAsg (eCompC (own.map (·.2)) fi g ft f) (gN i)) :=
  ps_imp (ps_setLc hc hN hy hyl hsw hi ok hg ht he hs) fun B σ H q => comp_cel hk (fun _ _ _ z => z) (gname_of q)
end
end VL
/-! VL6: built-in functions, methods, defs. -/
namespace VL
open PySem PySem.Spec PyProof.Rows L2
def intsOf : List D → Option (List Int)
  | [] => some []
  | .int i :: ds => (intsOf ds).map (i :: ·)
  | _ => none
def boolsOf : List D → Option (List Bool)
  | [] => some []
  | .bl i :: ds => (boolsOf ds).map (i :: ·)
  | _ => none
theorem intsOf_map : ∀ {ds : List D} {ns : List Int}, intsOf ds = some ns → ds = ns.map D.int
  | [], ns, h => by cases h; rfl
  | d :: ds, ns, h => by
    cases d with
    | int i =>
      simp only [intsOf, Option.map_eq_some_iff] at h
      obtain ⟨ms, h1, rfl⟩ := h
      rw [intsOf_map h1]
      rfl
    | _ => cases h
theorem boolsOf_map : ∀ {ds : List D} {ns : List Bool}, boolsOf ds = some ns → ds = ns.map D.bl
  | [], ns, h => by cases h; rfl
  | d :: ds, ns, h => by
    cases d with
    | bl i =>
      simp only [boolsOf, Option.map_eq_some_iff] at h
      obtain ⟨ms, h1, rfl⟩ := h
      rw [boolsOf_map h1]
      rfl
    | _ => cases h
@[simp] theorem intsOf_ints (ns : List Int) : intsOf (ns.map D.int) = some ns := by
  induction ns with
  | nil => rfl
  | cons n ns ih => simp [intsOf, ih]
@[simp] theorem boolsOf_bools (ns : List Bool) : boolsOf (ns.map D.bl) = some ns := by
  induction ns with
  | nil => rfl
  | cons n ns ih => simp [boolsOf, ih]
section
variable {K : PySem.W.Frag} {mg : Str → Option Value} {T : List NdefX.NTab} {A : AS}
theorem reps1 {d : D} {vs : List V} (r : Reps K mg A [d] vs) : ∃ v, vs = [v] ∧ Rep K mg A d v := by
  simp only [Reps] at r
  obtain ⟨v, _, rfl, h, rfl⟩ := r
  exact ⟨v, rfl, h⟩
theorem reps2 {d e : D} {vs : List V} (r : Reps K mg A [d, e] vs) : ∃ v w, vs = [v, w] ∧ Rep K mg A d v ∧ Rep K mg A e w := by
  simp only [Reps] at r
  obtain ⟨v, _, rfl, h, w, _, rfl, h2, rfl⟩ := r
  exact ⟨v, w, rfl, h, h2⟩
theorem ints_inv {ns : List Int} {vs : List V} (r : Reps K mg A (ns.map D.int) vs) : vs = ns.map V.int := reps_inv (fun x v h => by simpa only [Rep] using h) ns vs r
theorem bools_inv {ns : List Bool} {vs : List V} (r : Reps K mg A (ns.map D.bl) vs) : vs = ns.map V.bl := reps_inv (fun x v h => by simpa only [Rep] using h) ns vs r
end
def arg1 (F : D → M D) (ds : List D) : M D := fun S => match ds with
  | [d] => F d S
  | _ => .bad
def arg2 (F : D → D → M D) (ds : List D) : M D := fun S => match ds with
  | [d, e] => F d e S
  | _ => .bad
def arg12 (F : D → M D) (G : D → D → M D) (ds : List D) : M D := fun S => match ds with
  | [d] => F d S
  | [d, e] => G d e S
  | _ => .bad
theorem arg1_ok {K : PySem.W.Frag} {mg : Str → Option Value} {T : List NdefX.NTab} {A : AS} {F : D → M D} {ds : List D} {vs : List V} {Q : VK} (rs : Reps K mg A ds vs) (q : Fin1 K mg T A (arg1 F ds A.S) Q) : ∃ d v, vs = [v] ∧ Rep K mg A d v ∧ Fin1 K mg T A (F d A.S) Q := by
  unfold arg1 at q
  split at q
  · simp only [Reps] at rs
    obtain ⟨v, _, rfl, h, rfl⟩ := rs
    exact ⟨_, v, rfl, h, q⟩
  · exact q.elim
theorem arg2_ok {K : PySem.W.Frag} {mg : Str → Option Value} {T : List NdefX.NTab} {A : AS} {F : D → D → M D} {ds : List D} {vs : List V} {Q : VK} (rs : Reps K mg A ds vs) (q : Fin1 K mg T A (arg2 F ds A.S) Q) : ∃ d e v w, vs = [v, w] ∧ Rep K mg A d v ∧ Rep K mg A e w ∧ Fin1 K mg T A (F d e A.S) Q := by
  unfold arg2 at q
  split at q
  · simp only [Reps] at rs
    obtain ⟨v, _, rfl, h, w, _, rfl, h2, rfl⟩ := rs
    exact ⟨_, _, v, w, rfl, h, h2, q⟩
  · exact q.elim
theorem arg12_ok {K : PySem.W.Frag} {mg : Str → Option Value} {T : List NdefX.NTab} {A : AS} {F : D → M D} {G : D → D → M D} {ds : List D} {vs : List V} {Q : VK} (rs : Reps K mg A ds vs) (q : Fin1 K mg T A (arg12 F G ds A.S) Q) :
    (∃ d v, vs = [v] ∧ Rep K mg A d v ∧ Fin1 K mg T A (F d A.S) Q) ∨ ∃ d e v w, vs = [v, w] ∧ Rep K mg A d v ∧ Rep K mg A e w ∧ Fin1 K mg T A (G d e A.S) Q := by
  unfold arg12 at q
  split at q
  · simp only [Reps] at rs
    obtain ⟨v, _, rfl, h, rfl⟩ := rs
    exact .inl ⟨_, v, rfl, h, q⟩
  · simp only [Reps] at rs
    obtain ⟨v, _, rfl, h, w, _, rfl, h2, rfl⟩ := rs
    exact .inr ⟨_, _, v, w, rfl, h, h2, q⟩
  · exact q.elim
/-- from the list / sequence content -/
def inL (k : List D → M D) (d : D) : M D := fun S => match listOf S d with
  | some xs => k xs S
  | none => .bad
def inS (k : List D → M D) (d : D) : M D := fun S => match seqOf S d with
  | some xs => k xs S
  | none => .bad
def inInts (k : List Int → M D) (xs : List D) : M D := fun S => match intsOf xs with
  | some ns => k ns S
  | none => .bad
def inBools (k : List Bool → M D) (xs : List D) : M D := fun S => match boolsOf xs with
  | some ns => k ns S
  | none => .bad
section
variable {K : PySem.W.Frag} {mg : Str → Option Value} {T : List NdefX.NTab} {A : AS} {d : D} {v : V} {Q : VK} {xs : List D} {vs : List V}
theorem inL_ok {k : List D → M D} (ok : Ok K mg T A) (r : Rep K mg A d v) (q : Fin1 K mg T A (inL k d A.S) Q) : ∃ a xs vs, v = .ref a ∧ SqL K A.H a vs ∧ Reps K mg A xs vs ∧ Fin1 K mg T A (k xs A.S) Q := by
  unfold inL at q
  split at q
  · rename_i xs e
    obtain ⟨a, ws, h1, h2, h3⟩ := listOf_ok ok r e
    exact ⟨a, xs, ws, h1, h2, h3, q⟩
  · exact q.elim
theorem inS_ok {k : List D → M D} (ok : Ok K mg T A) (r : Rep K mg A d v) (q : Fin1 K mg T A (inS k d A.S) Q) : ∃ a xs vs, v = .ref a ∧ (SqL K A.H a vs ∨ SqT K A.H a vs) ∧ Reps K mg A xs vs ∧ Fin1 K mg T A (k xs A.S) Q := by
  unfold inS at q
  split at q
  · rename_i xs e
    obtain ⟨a, ws, h1, h2, h3⟩ := seqOf_ok ok r e
    exact ⟨a, xs, ws, h1, h2, h3, q⟩
  · exact q.elim
theorem inInts_ok {k : List Int → M D} (r : Reps K mg A xs vs) (q : Fin1 K mg T A (inInts k xs A.S) Q) : ∃ ns, vs = ns.map V.int ∧ Fin1 K mg T A (k ns A.S) Q := by
  unfold inInts at q
  split at q
  · rename_i ns e
    rw [intsOf_map e] at r
    exact ⟨ns, ints_inv r, q⟩
  · exact q.elim
theorem inBools_ok {k : List Bool → M D} (r : Reps K mg A xs vs) (q : Fin1 K mg T A (inBools k xs A.S) Q) : ∃ ns, vs = ns.map V.bl ∧ Fin1 K mg T A (k ns A.S) Q := by
  unfold inBools at q
  split at q
  · rename_i ns e
    rw [boolsOf_map e] at r
    exact ⟨ns, bools_inv r, q⟩
  · exact q.elim
end
def mLen : List D → M D := arg1 fun d => match d with
  | .str z => fun S => if z.length ≤ LINE then .ok (.int z.length) S else .bad
  | d => inS (fun xs S => .ok (.int xs.length) S) d
def tyn : D → Option String
  | .non => some "NoneType"
  | .bl _ => some "bool"
  | .int _ => some "int"
  | .str _ => some "str"
  | .tup _ => some "tuple"
  | .lst _ => some "list"
  | .fro _ => some "list"
  | .cel _ => none
  | .wtup _ => none
  | .glo _ => none
  | .ty _ => none
  | .lam _ _ => none
def mIsi : List D → M D := arg2 fun d e S => match e with
  | .ty T => match tyn d with
    | some t => match kitB t T with
      | some b => .ok (.bl b) S
      | none => .bad
    | none => .bad
  | _ => .bad
def mAll : List D → M D := arg1 (inL (inBools fun bs S => .ok (.bl (bs.all id)) S))
def mAny : List D → M D := arg1 (inL (inBools fun bs S => .ok (.bl (bs.any id)) S))
def mSum : List D → M D := arg1 (inL (inInts fun ns S => .ok (.int ns.sum) S))
def big1 (f : Int → Int → Int) (ns : List Int) : M D := fun S => match ns with
  | n :: ns => .ok (.int (ns.foldl f n)) S
  | [] => .bad
def big2 (f : Int → Int → Int) (d e : D) : M D := fun S => match d, e with
  | .int i, .int j => .ok (.int (f i j)) S
  | _, _ => .bad
def mMax : List D → M D := arg12 (inS (inInts (big1 max))) (big2 fun i j => if j > i then j else i)
def mMin : List D → M D := arg12 (inS (inInts (big1 min))) (big2 fun i j => if j < i then j else i)
def mTuple : List D → M D := arg1 fun d => match d with
  | .tup xs => fun S => .ok (.tup xs) S
  | d => inL (fun xs S => if xs.length ≤ LINE then .ok (.tup xs) S else .bad) d
def mList : List D → M D := arg1 (inS fun xs S => .ok (.lst xs) S)
def mInt : List D → M D := arg1 fun d S => match d with
  | .int i => .ok (.int i) S
  | .bl k => .ok (.int (if k then 1 else 0)) S
  | _ => .bad
def mAbs : List D → M D := arg1 fun d S => match d with
  | .int i => .ok (.int (if i < 0 then -i else i)) S
  | _ => .bad
def mDivmod : List D → M D := arg2 fun d e S => match d, e with
  | .int i, .int j => if 0 < j ∧ j < 1073741824 then .ok (.wtup [.int (i / j), .int (i % j)]) S else .bad
  | _, _ => .bad
/-- the order of data as the model's sort takes it -/
def leD (a b : D) : Bool := PySem.W.dataLe false (fun d : D => d.py.getD .none) a b
def isT : PyData → Bool
  | .tuple (_ :: _) => true
  | _ => false
def isO : PyData → Bool
  | .tuple _ => false
  | .none => false
  | _ => true
def sortOk (ps : List PyData) : Bool := (ps.all fun p => ps.all fun q => PySem.W.alike p q) && (ps.all isT || ps.all isO) && ps.all fun p => decide (p.depth ≤ 60)
def mSorted : List D → M D := arg1 (inS fun xs S => match pys xs with
  | some ps => if sortOk ps = true ∧ xs.length ≤ LINE then .ok (.lst (xs.mergeSort leD)) S else .bad
  | none => .bad)
section
variable {T : List NdefX.NTab} {X : Cx}
theorem fin_int {K : PySem.W.Frag} {mg : Str → Option Value} {T : List NdefX.NTab} {A : AS} {n : Int} {Q : VK} (ok : Ok K mg T A) (q : Fin1 K mg T A (.ok (.int n) A.S) Q) : Q (.int n) A.H := Aft.val ok q (by simp only [Rep])
theorem fin_bool {K : PySem.W.Frag} {mg : Str → Option Value} {T : List NdefX.NTab} {A : AS} {n : Bool} {Q : VK} (ok : Ok K mg T A) (q : Fin1 K mg T A (.ok (.bl n) A.S) Q) : Q (.bl n) A.H := Aft.val ok q (by simp only [Rep])
theorem cr_len : CallR X (.builtin "len") (rL X.K X.mg T mLen) := callr_imp call_len fun vs H Q h => by
  obtain ⟨A, ds, rfl, ok, rs, q⟩ := h
  obtain ⟨d, v, rfl, r, q⟩ := arg1_ok rs q
  have seq : Fin1 X.K X.mg T A (inS (fun xs S => .ok (.int xs.length) S) d A.S) Q → ∃ x n, [v] = [x] ∧ LenV X.K x A.H n ∧ Q (.int n) A.H := fun q => by
    obtain ⟨a, xs, ws, rfl, sq, r2, q⟩ := inS_ok ok r q
    rw [r2.length] at q
    refine ⟨_, ws.length, rfl, ?_, fin_int ok q⟩
    rcases sq with sq | sq
    · exact .inl ⟨ws, sq, rfl⟩
    · exact .inr ⟨ws, sq, rfl⟩
  cases d with
  | str z =>
    simp only [Rep] at r
    subst r
    obtain ⟨c, q⟩ := fin_if q
    exact ⟨_, z.length, rfl, ⟨by rw [line_eq]; exact c, rfl⟩, fin_int ok q⟩
  | _ => exact seq q
theorem tyx_of {K : PySem.W.Frag} {mg : Str → Option Value} {A : AS} {d : D} {v : V} {t : String} (r : Rep K mg A d v) (h : tyn d = some t) : TyX K A.H v (.type t) := by
  cases d with
  | non => cases h; simp only [Rep] at r; subst r; exact .base .non
  | bl b => cases h; simp only [Rep] at r; subst r; exact .base (.bl b)
  | int b => cases h; simp only [Rep] at r; subst r; exact .base (.int b)
  | str b => cases h; simp only [Rep] at r; subst r; exact .base (.str b)
  | tup xs =>
    cases h
    simp only [Rep] at r
    obtain ⟨a, vs, rfl, t, _⟩ := r
    rcases t with ⟨o, e, _⟩ | ⟨o, its, n, e, c, _⟩
    · exact .fTuple e
    · exact .kTuple e c
  | lst xs =>
    cases h
    simp only [Rep] at r
    obtain ⟨a, vs, rfl, e, _⟩ := r
    exact .base (.lst e)
  | fro xs =>
    cases h
    simp only [Rep] at r
    obtain ⟨a, vs, rfl, e, _⟩ := r
    rcases e with ⟨o, e⟩ | ⟨o, its, n, e, c, _⟩
    · exact .base (.frz e)
    · exact .kList e c
  | _ => cases h
theorem cr_isi : CallR X (.builtin "isinstance") (rL X.K X.mg T mIsi) := callr_imp call_isi fun vs H Q h => by
  obtain ⟨A, ds, rfl, ok, rs, q⟩ := h
  obtain ⟨d, e, v, w, rfl, r1, r2, q⟩ := arg2_ok rs q
  cases e with
  | ty T =>
    simp only [Rep] at r2
    subst r2
    simp only [] at q
    split at q
    · rename_i t e1
      split at q
      · rename_i b e2
        exact ⟨v, _, _, _, b, rfl, .ty T, tyx_of r1 e1, kit_ty e2, fin_bool ok q⟩
      · exact q.elim
    · exact q.elim
  | _ => exact q.elim
theorem cr_allM (hc : X.calm = true) : CallR X (.builtin "all") (rL X.K X.mg T mAll) := callr_imp (cr_all hc) fun vs H Q h => by
  obtain ⟨A, ds, rfl, ok, rs, q⟩ := h
  obtain ⟨d, v, rfl, r, q⟩ := arg1_ok rs q
  obtain ⟨a, xs, ws, rfl, sq, r2, q⟩ := inL_ok ok r q
  obtain ⟨bs, rfl, q⟩ := inBools_ok r2 q
  exact ⟨a, bs, rfl, sq, fin_bool ok q⟩
theorem cr_anyM (hc : X.calm = true) : CallR X (.builtin "any") (rL X.K X.mg T mAny) := callr_imp (cr_any hc) fun vs H Q h => by
  obtain ⟨A, ds, rfl, ok, rs, q⟩ := h
  obtain ⟨d, v, rfl, r, q⟩ := arg1_ok rs q
  obtain ⟨a, xs, ws, rfl, sq, r2, q⟩ := inL_ok ok r q
  obtain ⟨bs, rfl, q⟩ := inBools_ok r2 q
  exact ⟨a, bs, rfl, sq, fin_bool ok q⟩
theorem cr_sumM (hc : X.calm = true) : CallR X (.builtin "sum") (rL X.K X.mg T mSum) := callr_imp (cr_sum hc) fun vs H Q h => by
  obtain ⟨A, ds, rfl, ok, rs, q⟩ := h
  obtain ⟨d, v, rfl, r, q⟩ := arg1_ok rs q
  obtain ⟨a, xs, ws, rfl, sq, r2, q⟩ := inL_ok ok r q
  obtain ⟨ns, rfl, q⟩ := inInts_ok r2 q
  exact ⟨a, ns, rfl, sq, fin_int ok q⟩
/-! ### max, min of whole numbers -/
theorem reads_ints {h : Heap} : ∀ {ns : List Int} {us : List Value}, Vals (ns.map V.int) us → ReadsAll h us (ns.map .int) []
  | [], us, r => by cases r; exact .nil
  | n :: ns, us, r => by
    cases r with
    | cons r1 r2 =>
      obtain ⟨t, rfl⟩ := r1
      exact .cons (as := []) (bs := []) (.int n t) (reads_ints r2)
theorem depth_ints : ∀ ns : List Int, PyData.depthAll (ns.map .int) = 0
  | [] => rfl
  | n :: ns => by
    show max (PyData.depth (.int n)) (PyData.depthAll (ns.map .int)) = 0
    rw [depth_ints ns]
    rfl
theorem alike_ints (ns : List Int) : PySem.W.AlikeAll (ns.map .int) := by
  refine ⟨fun x hx y hy => ?_, fun x hx => ?_⟩
  · obtain ⟨i, _, rfl⟩ := List.mem_map.mp hx
    obtain ⟨j, _, rfl⟩ := List.mem_map.mp hy
    rfl
  · obtain ⟨i, _, rfl⟩ := List.mem_map.mp hx
    exact fun z => nomatch z
theorem cr_maxM (hu : X.A.units + 64 < cLine) (hc : X.calm = true) : CallR X (.builtin "max") (rL X.K X.mg T mMax) := by
  intro pins s σ H vs us Q I r h
  obtain ⟨A, ds, rfl, ok, rs, q⟩ := h
  rcases arg12_ok rs q with ⟨d, v, rfl, r1, q⟩ | ⟨d, e, v, w, rfl, r1, r2, q⟩
  · obtain ⟨a, xs, ws, rfl, sq, r2, q⟩ := inS_ok ok r1 q
    obtain ⟨ms, rfl, q⟩ := inInts_ok r2 q
    cases ms with
    | nil => exact q.elim
    | cons n ns =>
      rw [Vals.ref1 r]
      have fin : ∀ {its : List Value} (i : Nat) (v : Value) (h' : Heap) (tk : Nat) (bs : List Addr), its.toArray[i]? = some v → Reads h' v (PySem.W.maxD (.int n) (ns.map .int)) bs → (∀ b o, s.heap.get? b = some o → h'.get? b = some o) → EP X pins σ Q v { s with heap := h', toks := tk } := fun {its} i v h' tk bs _ rd hk => by
        rw [PySem.W.maxD_ints] at rd
        cases rd
        exact ⟨.int _, A.H, I.kept hk, ⟨_, rfl⟩, fin_int ok q⟩
      have hd : X.A.units + 1 + PyData.depthAll ((n :: ns).map .int) < cLine := by
        rw [depth_ints]; omega
      rcases sq with sq | sq
      · obtain ⟨its, rv, hl, _⟩ := I.list sq
        exact PySem.W.max_list_data (I.ok.hd hc) hl.isList (x := .int n) (xs := ns.map .int) (by simpa using reads_ints (ns := n :: ns) rv) (alike_ints (n :: ns)) hd (fin (its := its))
      · obtain ⟨its, rv, hl, _⟩ := I.tuple sq
        exact PySem.W.max_tuple_data (I.ok.hd hc) hl (x := .int n) (xs := ns.map .int) (by simpa using reads_ints (ns := n :: ns) rv) (alike_ints (n :: ns)) hd (fin (its := its))
  · unfold big2 at q
    split at q
    · simp only [Rep] at r1 r2
      subst r1 r2
      exact call_max2 hc pins s σ A.H _ us Q I r ⟨_, _, rfl, fin_int ok q⟩
    · exact q.elim
theorem cr_minM (hu : X.A.units + 64 < cLine) (hc : X.calm = true) : CallR X (.builtin "min") (rL X.K X.mg T mMin) := by
  intro pins s σ H vs us Q I r h
  obtain ⟨A, ds, rfl, ok, rs, q⟩ := h
  rcases arg12_ok rs q with ⟨d, v, rfl, r1, q⟩ | ⟨d, e, v, w, rfl, r1, r2, q⟩
  · obtain ⟨a, xs, ws, rfl, sq, r2, q⟩ := inS_ok ok r1 q
    obtain ⟨ms, rfl, q⟩ := inInts_ok r2 q
    cases ms with
    | nil => exact q.elim
    | cons n ns =>
      rw [Vals.ref1 r]
      have fin : ∀ {its : List Value} (i : Nat) (v : Value) (h' : Heap) (tk : Nat) (bs : List Addr), its.toArray[i]? = some v → Reads h' v (PySem.W.minD (.int n) (ns.map .int)) bs → (∀ b o, s.heap.get? b = some o → h'.get? b = some o) → EP X pins σ Q v { s with heap := h', toks := tk } := fun {its} i v h' tk bs _ rd hk => by
        rw [PySem.W.minD_ints] at rd
        cases rd
        exact ⟨.int _, A.H, I.kept hk, ⟨_, rfl⟩, fin_int ok q⟩
      have hd : X.A.units + 1 + PyData.depthAll ((n :: ns).map .int) < cLine := by
        rw [depth_ints]; omega
      rcases sq with sq | sq
      · obtain ⟨its, rv, hl, _⟩ := I.list sq
        exact PySem.W.min_list_data (I.ok.hd hc) hl.isList (x := .int n) (xs := ns.map .int) (by simpa using reads_ints (ns := n :: ns) rv) (alike_ints (n :: ns)) hd (fin (its := its))
      · obtain ⟨its, rv, hl, _⟩ := I.tuple sq
        exact PySem.W.min_tuple_data (I.ok.hd hc) hl (x := .int n) (xs := ns.map .int) (by simpa using reads_ints (ns := n :: ns) rv) (alike_ints (n :: ns)) hd (fin (its := its))
  · unfold big2 at q
    split at q
    · simp only [Rep] at r1 r2
      subst r1 r2
      exact call_min2 hc pins s σ A.H _ us Q I r ⟨_, _, rfl, fin_int ok q⟩
    · exact q.elim
/-! ### tuple(..), list(..), int(..), abs(..), divmod(..) -/
theorem cr_tupleM : CallR X (.type "tuple") (rL X.K X.mg T mTuple) := by
  intro pins s σ H vs us Q I r h
  obtain ⟨A, ds, rfl, ok, rs, q⟩ := h
  obtain ⟨d, v, rfl, r1, q⟩ := arg1_ok rs q
  have lists : Fin1 X.K X.mg T A (inL (fun xs S => if xs.length ≤ LINE then .ok (.tup xs) S else .bad) d A.S) Q → wpAny (model X.prog X.w) X.A (call (.type "tuple") us) (EP X pins σ Q) X.xe s := fun q => by
    obtain ⟨a, xs, ws, rfl, sq, r2, q⟩ := inL_ok ok r1 q
    obtain ⟨c, q⟩ := fin_if q
    rw [Vals.ref1 r]
    obtain ⟨its, rv, pl, hz⟩ := I.list sq
    refine call_tuple_list pl.isList (fun h' kp => ?_) (by rw [List.size_toArray, ← rv.length]; exact hz)
    have I1 : Inv X pins σ A.H { s with heap := h' } := I.kept (t' := s.toks) kp
    exact ⟨.ref h'.objs.size, _, laid_tup I1 hz rv, rfl, Aft.tup ok q r2 (I1.hok.fresh (Nat.le_refl _)) rfl⟩
  cases d with
  | tup xs =>
    have R1 := r1
    simp only [Rep] at r1
    obtain ⟨a, ws, rfl, t, _⟩ := r1
    rw [Vals.ref1 r]
    obtain ⟨its, rv, pl, hz⟩ := I.tuple t.sq
    exact call_tuple_same pl ⟨.ref a, A.H, I, rfl, Aft.val ok q R1⟩
  | _ => exact lists q
theorem cr_listM : CallR X (.type "list") (rL X.K X.mg T mList) := callr_imp call_list_of fun vs H Q h => by
  obtain ⟨A, ds, rfl, ok, rs, q⟩ := h
  obtain ⟨d, v, rfl, r1, q⟩ := arg1_ok rs q
  obtain ⟨a, xs, ws, rfl, sq, r2, q⟩ := inS_ok ok r1 q
  exact ⟨a, ws, rfl, sq, fun l hl => Aft.lst ok q r2 hl⟩
theorem cr_intM : CallR X (.type "int") (rL X.K X.mg T mInt) := callr_imp call_int1 fun vs H Q h => by
  obtain ⟨A, ds, rfl, ok, rs, q⟩ := h
  obtain ⟨d, v, rfl, r, q⟩ := arg1_ok rs q
  split at q
  · simp only [Rep] at r
    exact .inl ⟨_, by rw [r], fin_int ok q⟩
  · simp only [Rep] at r
    exact .inr ⟨_, by rw [r], fin_int ok q⟩
  · exact q.elim
theorem cr_absM : CallR X (.builtin "abs") (rL X.K X.mg T mAbs) := callr_imp call_abs fun vs H Q h => by
  obtain ⟨A, ds, rfl, ok, rs, q⟩ := h
  obtain ⟨d, v, rfl, r, q⟩ := arg1_ok rs q
  split at q
  · simp only [Rep] at r
    exact ⟨_, by rw [r], fin_int ok q⟩
  · exact q.elim
theorem cr_divmodM : CallR X (.builtin "divmod") (rL X.K X.mg T mDivmod) := callr_imp call_divmod fun vs H Q h => by
  obtain ⟨A, ds, rfl, ok, rs, q⟩ := h
  obtain ⟨d, e, v, w, rfl, r1, r2, q⟩ := arg2_ok rs q
  split at q
  · simp only [Rep] at r1 r2
    obtain ⟨c, q⟩ := fin_if q
    refine ⟨_, _, by rw [r1, r2], c, fun p hp => Aft.wtup ok q ?_ hp⟩
    simp only [Reps, Rep]
    exact ⟨_, _, rfl, rfl, _, _, rfl, rfl, rfl⟩
  · exact q.elim
end
end VL
/-! VL7: methods, sorted, [::-1], defs and calls. -/
namespace VL
open PySem PySem.Spec PyProof.Rows L2
/-! ### methods -/
inductive Kd where
  | str | lst | tup
deriving DecidableEq
def Kd.ty : Kd → String
  | .str => "str"
  | .lst => "list"
  | .tup => "tuple"
def kdOf : D → Option Kd
  | .str _ => some .str
  | .lst _ => some .lst
  | .fro _ => some .lst
  | .cel _ => some .lst
  | .tup _ => some .tup
  | _ => none
structure MV (T : List NdefX.NTab) (X : Cx) (name : Str) (g : Kd → Bool) (m : D → List D → M D) : Prop where
  run : ∀ k, g k = true → ∃ id, PlainAttrs k.ty ∧ Slot k.ty name id ∧ typeOf (.builtin id) = pure (.type "method_descriptor") ∧
    ∀ (pins : List (Addr × Obj)) (s : Shared) (σ : L2.St) (A : AS) (d : D) (ds : List D) (x : V) (v : Value) (vs : List V) (us : List Value) (Q : VK), kdOf d = some k → Inv X pins σ A.H s → Ok X.K X.mg T A → Rep X.K X.mg A d x → RelV x v → Reps X.K X.mg A ds vs → Vals vs us →
      Fin1 X.K X.mg T A (m d ds A.S) Q → wpAny (model X.prog X.w) X.A (call (.builtin id) (v :: us)) (EP X pins σ Q) X.xe s
theorem cell_of {K : PySem.W.Frag} {mg : Str → Option Value} {A : AS} {n : Nat} {v : V} (r : Rep K mg A (.cel n) v) : ∃ a, v = .ref a ∧ A.ρ[n]? = some a := by simpa only [Rep] using r
/-- the type of the object whose method is called -/
theorem kd_is {T : List NdefX.NTab} {X : Cx} {pins : List (Addr × Obj)} {σ : L2.St} {s : Shared} {A : AS} {d : D} {x : V} {v : Value} {k : Kd} (h : kdOf d = some k) (I : Inv X pins σ A.H s) (hl : ∀ n, d = .cel n → ∃ ds, listOf A.S (.cel n) = some ds) (ok : Ok X.K X.mg T A) (r : Rep X.K X.mg A d x) (rx : RelV x v) :
    s.TypeIs v k.ty ∧ ∀ a, v = .ref a → ∃ ob, s.heap.get? a = some ob ∧ ob.dict = none := by
  have lists : ∀ {ds}, listOf A.S d = some ds → s.TypeIs v "list" ∧ ∀ a, v = .ref a → ∃ ob, s.heap.get? a = some ob ∧ ob.dict = none := fun {ds} e => by
    obtain ⟨a, vs, rfl, sq, _⟩ := listOf_ok ok r e
    cases rx
    obtain ⟨its, _, pl, _⟩ := I.list sq
    refine ⟨pl.isList.typeIs, fun a e => ?_⟩
    cases e
    obtain ⟨o, n, e, c, hd, _⟩ := pl
    exact ⟨o, e, hd⟩
  cases d with
  | str z =>
    cases h
    simp only [Rep] at r
    subst r
    obtain ⟨t, rfl⟩ := rx
    exact ⟨typeIs_str s z t, fun _ e => nomatch e⟩
  | lst ds => cases h; exact lists rfl
  | fro ds => cases h; exact lists rfl
  | cel n => cases h; obtain ⟨ds, e⟩ := hl n rfl; exact lists e
  | tup ds =>
    cases h
    simp only [Rep] at r
    obtain ⟨a, vs, rfl, t, _⟩ := r
    cases rx
    obtain ⟨its, _, ht, _⟩ := I.tuple t.sq
    refine ⟨ht.typeIs, fun b e => ?_⟩
    cases e
    rcases t with ⟨o, h1, h2⟩ | ⟨o, its, n, h1, h2, h3, _⟩
    · obtain ⟨e, _⟩ := I.hok a _ h1
      exact ⟨o, e, h2⟩
    · exact ⟨o, I.kIn _ _ h1, h3⟩
  | _ => cases h
def mLive (x : D) : M Unit := fun S => match x with
  | .cel n => match (S[n]?).join with
    | some _ => .ok () S
    | none => .bad
  | _ => .ok () S
def eMethL (g : Kd → Bool) (m : D → List D → M D) (f : DEnv → M D) (fs : DEnv → M (List D)) : DEnv → M D := fun en => M.bind (f en) fun x => M.bind (mLive x) fun _ => match kdOf x with
  | some k => if g k = true then M.bind (fs en) fun xs => m x xs else M.bad
  | none => M.bad
section
variable {T : List NdefX.NTab} {X : Cx} {o e : Expr} {es : List Expr} {f : DEnv → M D} {fs : DEnv → M (List D)} {name : Str} {apos cpos : Pos} {g : Kd → Bool} {m : D → List D → M D}
theorem ev_meth (hm : MV T X name g m) (ho : EV T X o f) (ha : AV T X (e :: es) fs)
    (hbase : attributeBase o name X.env (eval o X.env) = eval o X.env := by rfl)
    (hfew : ((backTo cpos (starEach (e :: es) X.env)).all (fun x => !x.1) && (backToKw cpos (keywordEach [] X.env)).all (fun x => x.1.isSome)
      && decide ((e :: es).length + ([] : List Keyword).length + (if ([] : List Keyword).isEmpty then 0 else 1) < 30)) = true := by rfl)
    (hline : (apos.endLine == cpos.line) = true := by rfl) (hs : starEach (e :: es) X.env = (false, eval e X.env) :: starEach es X.env := by rfl) (hplain : (backTo cpos (starEach es X.env)).any (·.1) = false := by rfl) :
    EV T X (.Call (.Attribute o name apos) (e :: es) [] cpos) (eMethL g m f fs) := by
  refine ⟨fun pins s σ H Q I h => ?_⟩
  obtain ⟨A, en, rfl, ok, re, q⟩ := h
  refine wpAny_Call_method_late hbase hfew hline rfl (thn (ho.run pins s σ A.H (fun x H1 => ∃ A1 d, A1.H = H1 ∧ Ok X.K X.mg T A1 ∧ REnv X.K X.mg A1 en σ ∧ Rep X.K X.mg A1 d x ∧ Aft X.K X.mg T A1 (M.bind (mLive d) (fun _ => match kdOf d with
    | some k => if g k = true then M.bind (fs en) fun xs => m d xs else M.bad
    | none => M.bad) A1.S) fun z A' => ∀ u, Rep X.K X.mg A' z u → Q u A'.H) I
      ⟨A, en, rfl, ok, re, (Aft.bind q).mono fun d A1 ok1 x1 q1 v rv => ⟨A1, d, rfl, ok1, re.ext ok x1, rv, q1⟩⟩) fun v s1 ⟨x, H1, I1, r1, A1, d, e1, ok1, re1, rd, q1⟩ => ?_)
  subst e1
  have q2 := Aft.bind q1
  have lv : ∀ n, d = .cel n → ∃ ds, listOf A1.S (.cel n) = some ds := fun n e => by
    subst e
    unfold mLive at q2
    simp only [] at q2
    cases h1 : (A1.S[n]?).join with
    | none => rw [h1] at q2; exact q2.elim
    | some ds => exact ⟨ds, h1⟩
  have q3 : Aft X.K X.mg T A1 ((match kdOf d with
    | some k => if g k = true then M.bind (fs en) fun xs => m d xs else M.bad
    | none => M.bad) A1.S) fun z A' => ∀ u, Rep X.K X.mg A' z u → Q u A'.H := by
    have em : mLive d A1.S = .ok () A1.S := by
      unfold mLive
      split
      · rename_i n
        obtain ⟨ds, e⟩ := lv n rfl
        have e : (A1.S[n]?).join = some ds := e
        rw [e]
      · rfl
    rw [em] at q2
    exact Aft.now ok1 q2
  cases hk : kdOf d with
  | none => rw [hk] at q3; exact q3.elim
  | some k =>
    simp only [hk] at q3
    by_cases hg : g k = true
    · rw [if_pos hg] at q3
      obtain ⟨id, pa, slot, hty, hr⟩ := hm.run k hg
      obtain ⟨h1, h2⟩ := kd_is hk I1 lv ok1 rd r1
      refine ⟨k.ty, id, pa, slot, hty, h1, h2, ?_⟩
      have hA := ha.run cpos pins s1 σ A1.H (fun vs H2 => ∃ A2 ds, A2.H = H2 ∧ Ok X.K X.mg T A2 ∧ Rep X.K X.mg A2 d x ∧ Reps X.K X.mg A2 ds vs ∧ Fin1 X.K X.mg T A2 (m d ds A2.S) Q) I1
        ⟨A1, en, rfl, ok1, re1, (Aft.bind q3).mono fun ds A2 ok2 x2 q4 vs rs => ⟨A2, ds, rfl, ok2, rd.ext ok1 x2 _ _, rs, q4⟩⟩
      rw [hs] at hA ⊢
      refine Calls.callWith_builtin (by show (false || (backTo cpos (starEach es X.env)).any (·.1)) = false; rw [hplain] <;> rfl) (Calls.evalArgs_plain ?_)
      refine thn hA fun us s2 ⟨vs, H2, I2, r2, A2, ds, e2, ok2, rd2, rs2, q5⟩ => ?_
      subst e2
      exact hr pins s2 σ A2 d ds x v vs us Q hk I2 ok2 rd2 r1 rs2 r2 q5
    · rw [if_neg hg] at q3
      exact q3.elim
end
def pyFind (f : List PyData → PyData → Option Int) (d : D) : List D → M D := arg1 fun x S => match pyOf S x, (seqOf S d).bind pys with
    | some p, some ps => if min (PyData.depthAll ps) p.depth ≤ 60 ∧ ps.length ≤ LINE then match f ps p with
      | some i => .ok (.int i) S
      | none => .bad
      else .bad
    | _, _ => .bad
def mIndex : D → List D → M D := pyFind fun ps p => Option.map (fun n : Nat => (n : Int)) (SeqAt.dataPlace ps p)
def mCount : D → List D → M D := pyFind fun ps p => some ((ps.countP fun y => PyData.eqv y p : Nat) : Int)
def gSeq : Kd → Bool
  | .str => false
  | _ => true
def gLst : Kd → Bool
  | .lst => true
  | _ => false
def gStr : Kd → Bool
  | .str => true
  | _ => false
section
variable {T : List NdefX.NTab} {X : Cx} {pins : List (Addr × Obj)} {σ : L2.St} {s : Shared} {A : AS} {d : D} {x : V} {v : Value}
/-- the items of a tuple, a list -/
def Seq2 (k : Kd) (h : Heap) (a : Addr) (its : Array Value) : Prop := match k with
  | .tup => h.IsTuple a its
  | .lst => h.IsList a its
  | .str => False
theorem seq_items {k : Kd} (hk : kdOf d = some k) (hg : gSeq k = true) (I : Inv X pins σ A.H s) (ok : Ok X.K X.mg T A) (r : Rep X.K X.mg A d x) (rx : RelV x v) {xs : List D} (e : seqOf A.S d = some xs) :
    ∃ a its ws, v = .ref a ∧ Seq2 k s.heap a its.toArray ∧ Vals ws its ∧ Reps X.K X.mg A xs ws ∧ its.length ≤ sizeLine := by
  have lists : k = .lst → listOf A.S d = some xs → ∃ a its ws, v = .ref a ∧ Seq2 k s.heap a its.toArray ∧ Vals ws its ∧ Reps X.K X.mg A xs ws ∧ its.length ≤ sizeLine := fun ek e => by
    subst ek
    obtain ⟨a, vs, rfl, sq, r2⟩ := listOf_ok ok r e
    cases rx
    obtain ⟨its, rv, pl, hz⟩ := I.list sq
    exact ⟨a, its, vs, rfl, pl.isList, rv, r2, by rw [← rv.length]; exact hz⟩
  cases d with
  | tup ds =>
    cases hk
    cases e
    simp only [Rep] at r
    obtain ⟨a, vs, rfl, t, r2⟩ := r
    cases rx
    obtain ⟨its, rv, ht, hz⟩ := I.tuple t.sq
    exact ⟨a, its, vs, rfl, ht, rv, r2, by rw [← rv.length]; exact hz⟩
  | lst ds => cases hk; exact lists rfl e
  | fro ds => cases hk; exact lists rfl e
  | cel ds => cases hk; exact lists rfl e
  | str z => cases hk; cases hg
  | _ => cases hk
theorem pyFind_ok {f : List PyData → PyData → Option Int} {ds : List D} {vs : List V} {us : List Value} {Q : VK} {k : Kd} (hk : kdOf d = some k) (hg : gSeq k = true) (I : Inv X pins σ A.H s) (ok : Ok X.K X.mg T A) (r : Rep X.K X.mg A d x) (rx : RelV x v) (rs : Reps X.K X.mg A ds vs) (rv : Vals vs us) (q : Fin1 X.K X.mg T A (pyFind f d ds A.S) Q) :
    ∃ (u : Value) (a : Addr) (its : List Value) (p : PyData) (ps : List PyData) (as bs : List Addr) (i : Int), us = [u] ∧ v = .ref a ∧ Seq2 k s.heap a its.toArray ∧ its.length ≤ sizeLine ∧ ReadsAll s.heap its.toArray.toList ps as ∧ Reads s.heap u p bs ∧ p.plain = true ∧ PyData.plainAll ps = true ∧ min (PyData.depthAll ps) p.depth ≤ 60 ∧ f ps p = some i ∧ Q (.int i) A.H := by
  obtain ⟨z, y, rfl, ry, q⟩ := arg1_ok rs q
  split at q
  · rename_i p ps e1 e2
    obtain ⟨xs, e3, e4⟩ := Option.bind_eq_some_iff.mp e2
    obtain ⟨c, q⟩ := fin_if q
    split at q
    · rename_i i e5
      obtain ⟨u, rfl, ru⟩ := rv.one
      obtain ⟨d1, f1⟩ := pyOf_dp ok e1 ry
      obtain ⟨a, its, ws, rfl, sq, rw1, r2, hz⟩ := seq_items hk hg I ok r rx e3
      obtain ⟨d2, f2⟩ := pys_dp xs ws ps e4 r2
      obtain ⟨bs, h1⟩ := Dp.reads I p y u d1 ru
      obtain ⟨as, h2⟩ := Dp.readsAll I ps ws its d2 rw1
      exact ⟨u, a, its, p, ps, as, bs, i, rfl, rfl, sq, hz, by simpa using h2, h1, f1, f2, c.1, e5, fin_int ok q⟩
    · exact q.elim
  · exact q.elim
theorem mv_count (hu : X.A.units + 64 < cLine) : MV T X "count" gSeq mCount := ⟨fun k hg => by
  cases k with
  | str => cases hg
  | tup =>
    refine ⟨"tuple.count", PySem.F.plainAttrs_tuple, PySem.F.slot_tuple_count, PySem.F.type_tuple_count, fun pins s σ A d ds x v vs us Q hk I ok r rx rs rv q => ?_⟩
    obtain ⟨u, a, its, p, ps, as, bs, i, rfl, rfl, sq, hz, h2, h1, f1, f2, c, e, q⟩ := pyFind_ok hk hg I ok r rx rs rv q
    cases e
    exact SeqAt.count_tuple_data sq h2 h1 f2 f1 (by omega) ⟨.int _, A.H, I.tok _, ⟨s.toks, rfl⟩, q⟩
  | lst =>
    refine ⟨"list.count", PySem.F.plainAttrs_list, PySem.F.slot_list_count, PySem.F.type_list_count, fun pins s σ A d ds x v vs us Q hk I ok r rx rs rv q => ?_⟩
    obtain ⟨u, a, its, p, ps, as, bs, i, rfl, rfl, sq, hz, h2, h1, f1, f2, c, e, q⟩ := pyFind_ok hk hg I ok r rx rs rv q
    cases e
    exact SeqAt.count_list_data sq h2 h1 f2 f1 (by omega) ⟨.int _, A.H, I.tok _, ⟨s.toks, rfl⟩, q⟩⟩
theorem mv_index (hu : X.A.units + 64 < cLine) : MV T X "index" gSeq mIndex := ⟨fun k hg => by
  cases k with
  | str => cases hg
  | tup =>
    refine ⟨"tuple.index", PySem.F.plainAttrs_tuple, PySem.F.slot_tuple_index, PySem.F.type_tuple_index, fun pins s σ A d ds x v vs us Q hk I ok r rx rs rv q => ?_⟩
    obtain ⟨u, a, its, p, ps, as, bs, i, rfl, rfl, sq, hz, h2, h1, f1, f2, c, e, q⟩ := pyFind_ok hk hg I ok r rx rs rv q
    obtain ⟨j, hj, rfl⟩ := Option.map_eq_some_iff.mp e
    obtain ⟨⟨cls, dd, data, sl⟩, ho, hc, n, hd'⟩ := id sq
    simp only at hc hd'
    subst hc hd'
    obtain ⟨hlt, hit, hno⟩ := SeqAt.hit_at h2 f2 hj
    have eqs := fun y hy => SeqAt.items_plain (A := X.A) h2 h1 f2 f1 (by omega) y hy
    exact call_meets PySem.F.slot_tuple_index ⟨_, ho, rfl⟩ PySem.F.entry_tuple_index (PySem.F.args_tuple_index_2 _ _) (SeqAt.tuple_index2_found a its.toArray n dd sl u (fun m => if h : m < its.toArray.size then PyData.eqv (SeqAt.readOf s.heap its.toArray[m]) p else false) j hlt (Nat.zero_le _) hlt (by rw [dif_pos hlt]; exact hit) (fun m hm _ hmj => by rw [dif_pos hm]; exact hno m hm hmj))
      ⟨ho, fun m hm => by rw [dif_pos hm]; exact eqs _ (Array.getElem_mem hm), ⟨.int _, A.H, I.tok _, ⟨s.toks, rfl⟩, q⟩⟩
  | lst =>
    refine ⟨"list.index", PySem.F.plainAttrs_list, PySem.F.slot_list_index, PySem.F.type_list_index, fun pins s σ A d ds x v vs us Q hk I ok r rx rs rv q => ?_⟩
    obtain ⟨u, a, its, p, ps, as, bs, i, rfl, rfl, sq, hz, h2, h1, f1, f2, c, e, q⟩ := pyFind_ok hk hg I ok r rx rs rv q
    obtain ⟨j, hj, rfl⟩ := Option.map_eq_some_iff.mp e
    obtain ⟨⟨cls, dd, data, sl⟩, ho, hc, n, hd'⟩ := id sq
    simp only at hc hd'
    subst hc hd'
    obtain ⟨hlt, hit, hno⟩ := SeqAt.hit_at h2 f2 hj
    have eqs := fun y hy => SeqAt.items_plain (A := X.A) h2 h1 f2 f1 (by omega) y hy
    have hz2 : its.length ≤ 16777216 := by rw [← sizeLine_eq]; exact hz
    exact call_meets PySem.F.slot_list_index ⟨_, ho, rfl⟩ PySem.F.entry_list_index (PySem.F.args_list_index_2 _ _) (SeqAt.list_index2_found a its.toArray n dd sl u (fun m => if h : m < its.toArray.size then PyData.eqv (SeqAt.readOf s.heap its.toArray[m]) p else false) j hlt (Nat.zero_le _) (by rw [List.size_toArray] at hlt; omega) (by rw [dif_pos hlt]; exact hit) (fun m hm _ hmj => by rw [dif_pos hm]; exact hno m hm hmj))
      ⟨ho, fun m hm => by rw [dif_pos hm]; exact eqs _ (Array.getElem_mem hm), ⟨.int _, A.H, I.tok _, ⟨s.toks, rfl⟩, q⟩⟩⟩
theorem mv_append : MV T X "append" gLst (fun d => arg1 fun x S => match d with
    | .cel n => match (S[n]?).join with
      | some xs => if xs.length < LINE then .ok .non (S.set n (some (xs ++ [x]))) else .bad
      | none => .bad
    | _ => .bad) := ⟨fun k hg => by
  cases k with
  | str => cases hg
  | tup => cases hg
  | lst =>
    refine ⟨"list.append", PySem.F.plainAttrs_list, PySem.F.slot_list_append, PySem.F.type_list_append, fun pins s σ A d ds x v vs us Q hk I ok r rx rs rv q => ?_⟩
    obtain ⟨z, y, rfl, ry, q⟩ := arg1_ok rs q
    cases d with
    | cel n =>
      simp only [] at q
      cases e1 : (A.S[n]?).join with
      | none => rw [e1] at q; exact q.elim
      | some xs =>
        simp only [e1] at q
        obtain ⟨c, q⟩ := fin_if q
        simp only [Rep] at r
        obtain ⟨p, rfl, hp⟩ := r
        have e3 := cel_join e1
        obtain ⟨ws, h1, h2⟩ := ok.cell n p xs e3 hp
        obtain ⟨okP, xP⟩ := put_ok ok e3 hp (h2.append (show Reps X.K X.mg A [z] [y] by simp only [Reps]; exact ⟨y, [], rfl, ry, rfl⟩))
        refine mt_append pins s σ A.H _ _ v us Q I rx rv ⟨p, ws, y, rfl, rfl, h1, by rw [← h2.length, line_eq]; exact c, ?_⟩
        exact q (A.put n p (xs ++ [z]) (ws ++ [y])) rfl okP xP .non (by simp only [Rep])
    | _ => exact q.elim⟩
def mSplit (d : D) : List D → M D := arg1 fun x S => match d, x with
  | .str a, .str b => if (b.length == 0) = false ∧ a.length + 2 ≤ LINE then .ok (.lst ((Txt.split a b).map D.str)) S else .bad
  | _, _ => .bad
def strsOf : List D → Option (List Str)
  | [] => some []
  | .str i :: ds => (strsOf ds).map (i :: ·)
  | _ => none
theorem strsOf_map : ∀ {ds : List D} {ns : List Str}, strsOf ds = some ns → ds = ns.map D.str
  | [], ns, h => by cases h; rfl
  | d :: ds, ns, h => by
    cases d with
    | str i =>
      simp only [strsOf, Option.map_eq_some_iff] at h
      obtain ⟨ms, h1, rfl⟩ := h
      rw [strsOf_map h1]
      rfl
    | _ => cases h
@[simp] theorem strsOf_strs (ns : List Str) : strsOf (ns.map D.str) = some ns := by
  induction ns with
  | nil => rfl
  | cons n ns ih => simp [strsOf, ih]
theorem strs_inv {K : PySem.W.Frag} {mg : Str → Option Value} {A : AS} {ns : List Str} {vs : List V} (r : Reps K mg A (ns.map D.str) vs) : vs = ns.map V.str := reps_inv (fun x v h => by simpa only [Rep] using h) ns vs r
def mJoin (d : D) : List D → M D := arg1 fun x S => match d with
  | .str a => match (seqOf S x).bind strsOf with
    | some ys => if (ys.map (·.length)).sum + ys.length * a.length ≤ LINE then .ok (.str (Txt.join a ys)) S else .bad
    | none => .bad
  | _ => .bad
theorem mv_split : MV T X "split" gStr mSplit := ⟨fun k hg => by
  cases k with
  | lst => cases hg
  | tup => cases hg
  | str =>
    refine ⟨"str.split", PySem.F.plainAttrs_str, PySem.F.slot_str_split, PySem.F.type_str_split, fun pins s σ A d ds x v vs us Q hk I ok r rx rs rv q => ?_⟩
    obtain ⟨z, y, rfl, ry, q⟩ := arg1_ok rs q
    split at q
    · obtain ⟨c, q⟩ := fin_if q
      simp only [Rep] at r ry
      subst r ry
      exact mt_split pins s σ A.H _ _ v us Q I rx rv ⟨_, _, rfl, rfl, c.1, by rw [line_eq]; exact c.2, fun p hp => Aft.lst ok q (reps_map (fun _ => by simp only [Rep]) _) hp⟩
    · exact q.elim⟩
theorem mv_join : MV T X "join" gStr mJoin := ⟨fun k hg => by
  cases k with
  | lst => cases hg
  | tup => cases hg
  | str =>
    refine ⟨"str.join", PySem.F.plainAttrs_str, PySem.F.slot_str_join, PySem.F.type_str_join, fun pins s σ A d ds x v vs us Q hk I ok r rx rs rv q => ?_⟩
    obtain ⟨z, y, rfl, ry, q⟩ := arg1_ok rs q
    split at q
    · split at q
      · rename_i ys e
        obtain ⟨xs, e3, e4⟩ := Option.bind_eq_some_iff.mp e
        obtain ⟨c, q⟩ := fin_if q
        obtain ⟨a, ws, rfl, sq, r2⟩ := seqOf_ok ok ry e3
        rw [strsOf_map e4] at r2
        rw [strs_inv r2] at sq
        simp only [Rep] at r
        subst r
        exact mt_join pins s σ A.H _ _ v us Q I rx rv ⟨_, _, _, rfl, rfl, sq, c, Aft.val ok q (by simp only [Rep])⟩
      · exact q.elim
    · exact q.elim⟩
/-! ### sorted -/
theorem each_reps {K : PySem.W.Frag} {mg : Str → Option Value} {A : AS} : ∀ {ds : List D} {vs : List V} {us : List Value}, Reps K mg A ds vs → Vals vs us → PySem.W.EachIs (fun u d => ∃ v, L2.RelV v u ∧ Rep K mg A d v) us ds
  | [], vs, us, r, h => by simp only [Reps] at r; subst r; cases h; exact .nil
  | d :: ds, vs, us, r, h => by
    simp only [Reps] at r
    obtain ⟨v, t, rfl, r1, r2⟩ := r
    cases h with
    | cons h1 h2 => exact .cons ⟨v, h1, r1⟩ (each_reps r2 h2)
theorem reps_each {K : PySem.W.Frag} {mg : Str → Option Value} {A : AS} : ∀ {ds : List D} {us : List Value}, PySem.W.EachIs (fun u d => ∃ v, L2.RelV v u ∧ Rep K mg A d v) us ds → ∃ vs, Reps K mg A ds vs ∧ Vals vs us
  | _, _, .nil => ⟨[], by simp only [Reps], .nil⟩
  | _, _, .cons ⟨v, h1, h2⟩ t => by
    obtain ⟨vs, a, b⟩ := reps_each t
    exact ⟨v :: vs, by simp only [Reps]; exact ⟨v, vs, rfl, h2, a⟩, .cons h1 b⟩
theorem pys_getD : ∀ {ds : List D} {ps : List PyData}, pys ds = some ps → ds.map (fun d => d.py.getD .none) = ps
  | [], ps, h => by simp only [pys, Option.some.injEq] at h; subst h; rfl
  | d :: ds, ps, h => by
    simp only [pys] at h
    cases e1 : d.py with
    | none => rw [e1] at h; cases h
    | some p =>
      cases e2 : pys ds with
      | none => rw [e1, e2] at h; cases h
      | some qs =>
        rw [e1, e2] at h
        cases h
        rw [List.map_cons, pys_getD e2, e1]
        rfl
theorem each_reads {A : AS} (I : Inv X pins σ A.H s) : ∀ {ds : List D} {ps : List PyData} {vs : List V} {us : List Value}, pys ds = some ps → Reps X.K X.mg A ds vs → Vals vs us → PySem.W.EachIs (fun u d => ∃ as, Reads s.heap u ((fun d : D => d.py.getD .none) d) as) us ds
  | [], ps, vs, us, h, r, rv => by simp only [Reps] at r; subst r; cases rv; exact .nil
  | d :: ds, ps, vs, us, h, r, rv => by
    simp only [Reps] at r
    obtain ⟨v, t, rfl, r1, r2⟩ := r
    simp only [pys] at h
    cases e1 : d.py with
    | none => rw [e1] at h; cases h
    | some p =>
      cases e2 : pys ds with
      | none => rw [e1, e2] at h; cases h
      | some qs =>
        cases rv with
        | cons h1 h2 =>
          refine .cons ?_ (each_reads I e2 r2 h2)
          show ∃ as, Reads s.heap _ (d.py.getD .none) as
          rw [e1]
          obtain ⟨d1, _⟩ := py_dp d v p e1 r1
          exact Dp.reads I p v _ d1 h1
theorem call_sorted_seq {prog : Program} {w : World} {A : Around} {E : Value → Shared → Prop} {s : Shared} {a : Addr} {ty : String} {ob : Obj} {us : List Value} {n : Nat} {ds : List D} {R : Value → D → Prop} {enc : D → PyData} {Q : Value → Shared → Prop} (hT : ty = "list" ∨ ty = "tuple") (ho : s.heap.get? a = some ob) (hc : ob.cls = .type ty) (hd : ob.data = .seq us.toArray n)
    (hz : us.length ≤ sizeLine) (e : PySem.W.EachIs R us ds) (er : PySem.W.EachIs (fun v b => ∃ as, Reads s.heap v (enc b) as) us ds) (hal : PySem.W.AllAlike (ds.map enc)) (hk : PySem.W.Sortable (ds.map enc)) (hu : ∀ b, b ∈ ds → A.units + 2 + (enc b).depth < cLine)
    (h : ∀ (h' : Heap) (l : Addr) (out : List Value) (m : Nat), (∀ b o, s.heap.get? b = some o → h'.get? b = some o) → s.heap.get? l = none → h'.get? l = some (seqObj "list" out.toArray m) → out.length = us.length → PySem.W.EachIs R out (ds.mergeSort (PySem.W.dataLe false enc)) → Q (.ref l) { s with heap := h' }) :
    wpAny (model prog w) A (call (.builtin "sorted") [.ref a]) Q E s := by
  refine Calls.call_function_entry kind_sorted plain_sorted entry_sorted (args_sorted1 _) ?_
  unfold Builtin.«sorted»
  refine wpAny_bind (m := checkCount "sorted" 1 1 _) (wpAny_pure ?_)
  refine wpAny_bind (wpAny_collect_seq a hT ho hc hd (fun h1 kp => ?_) (by rw [List.size_toArray]; exact hz))
  refine wpAny_bind (wpAny_newList ?_ hz)
  have ho1 : (h1.push (seqObj "list" us.toArray 0)).get? h1.objs.size = some (seqObj "list" us.toArray 0) := Heap.get?_push_size _ rfl
  have er' : PySem.W.EachIs (fun v b => ∃ as, Reads (PySem.W.sortingHeap (h1.push (seqObj "list" us.toArray 0)) h1.objs.size us) v (enc b) as) us ds := er.mono fun _ _ ⟨as, r⟩ => ⟨as, PyProof.Rows.Reads.keeps (fun b o hb => by
    have hb1 := kp b o hb
    exact PySem.W.sortingHeap_old (Nat.ne_of_lt (Heap.lt_size hb1)) (Heap.get?_push_of_some _ hb1)) r⟩
  refine wpAny_bind (wpAny_holding (wpAny_call_entry_kw slot_list_sort ⟨_, ho1, rfl⟩ entry_list_sort ?body (args_list_sort _)))
  case body =>
    refine PySem.W.list_sort_vals (s := { s with heap := h1.push (seqObj "list" us.toArray 0) }) (n := 0) ho1 (PySem.W.SortsAt.data (PySem.W.each_map (R := fun v d => ∃ as, Reads (PySem.W.sortingHeap (h1.push (seqObj "list" us.toArray 0)) h1.objs.size us) v d as) enc er') hal hk (PySem.W.bound_map hu)) hz ?_
    obtain ⟨m, hm⟩ := sortedHeap_at (out := (PySem.W.sortVals (PySem.W.dataKind (PySem.W.sortingHeap (h1.push (seqObj "list" us.toArray 0)) h1.objs.size us) (ds.map enc)) false us us).toArray) ho1
    refine ⟨_, rfl, wpAny_pure ⟨_, rfl, ?_⟩⟩
    refine h _ _ _ m (fun b o hb => ?_) ?_ hm (PySem.W.sortVals_length false rfl) (PySem.W.sortVals_data false e er' hal)
    · have hb1 := kp b o hb
      have hlt := Heap.lt_size hb1
      have hne : b ≠ h1.objs.size := Nat.ne_of_lt hlt
      have hsz : (h1.push (seqObj "list" us.toArray 0)).objs.size = h1.objs.size + 1 := size_push' h1 _
      exact (sortedHeap_old hne (by rw [hsz]; exact Nat.lt_succ_of_lt hlt)).trans (Heap.get?_push_of_some _ hb1)
    · cases e : s.heap.get? h1.objs.size with
      | none => rfl
      | some o => exact absurd (Heap.lt_size (kp _ _ e)) (Nat.lt_irrefl _)
theorem cr_sortedM (hu : X.A.units + 64 < cLine) : CallR X (.builtin "sorted") (rL X.K X.mg T mSorted) := by
  intro pins s σ H vs us Q I r h
  obtain ⟨A, ds, rfl, ok, rs, q⟩ := h
  obtain ⟨d, v, rfl, r1, q⟩ := arg1_ok rs q
  obtain ⟨a, xs, ws, rfl, sq, r2, q⟩ := inS_ok ok r1 q
  split at q
  · rename_i ps e1
    obtain ⟨c, q⟩ := fin_if q
    rw [Vals.ref1 r]
    have hp := pys_getD e1
    have c1 : (∀ p ∈ ps, ∀ q ∈ ps, PySem.W.alike p q = true) ∧ ((∀ p ∈ ps, isT p = true) ∨ ∀ p ∈ ps, isO p = true) ∧ ∀ p ∈ ps, p.depth ≤ 60 := by
      have c1 := c.1
      unfold sortOk at c1
      simp only [Bool.and_eq_true, Bool.or_eq_true, List.all_eq_true, decide_eq_true_eq] at c1
      exact ⟨c1.1.1, c1.1.2, c1.2⟩
    have go : ∀ {ty : String} {ob : Obj} {its : List Value} {n : Nat}, (ty = "list" ∨ ty = "tuple") → s.heap.get? a = some ob → ob.cls = .type ty → ob.data = .seq its.toArray n → Vals ws its → its.length ≤ sizeLine → wpAny (model X.prog X.w) X.A (call (.builtin "sorted") [.ref a]) (EP X pins σ Q) X.xe s := fun {ty ob its n} hT ho hc hd rv hz => by
      refine call_sorted_seq (enc := fun d : D => d.py.getD .none) (R := fun u d => ∃ v, L2.RelV v u ∧ Rep X.K X.mg A d v) hT ho hc hd hz (each_reps r2 rv) (each_reads I e1 r2 rv) (by rw [hp]; exact c1.1) (by
        rw [hp]
        rcases c1.2.1 with z | z
        · refine .inl fun p hp => ?_
          have := z p hp
          unfold isT at this
          split at this
          · exact ⟨_, _, rfl⟩
          · cases this
        · refine .inr fun p hp => ?_
          have := z p hp
          constructor
          · intro e; subst e; cases this
          · intro xs e; subst e; cases this) (fun b hb => by
        have : (b.py.getD .none) ∈ ps := by rw [← hp]; exact List.mem_map_of_mem hb
        have := c1.2.2 _ this
        show X.A.units + 2 + (b.py.getD .none).depth < cLine
        omega) fun h' l out m kp hl hm hlen ho' => ?_
      obtain ⟨vs', hr, hv⟩ := reps_each ho'
      refine ⟨.ref l, _, I.laidN (t' := s.toks) (o := .lst vs') kp hl (I.hok.gone hl) ?_, rfl, Aft.lst ok q hr (I.hok.gone hl)⟩
      exact ⟨by rw [hv.length, hlen]; exact hz, out, m, hv, hm⟩
    rcases sq with sq | sq
    · obtain ⟨its, rv, ⟨o, n, ho, hc, _, hd⟩, hz⟩ := I.list sq
      exact go (.inl rfl) ho hc hd rv (by rw [← rv.length]; exact hz)
    · obtain ⟨its, rv, ⟨o, ho, hc, n, hd⟩, hz⟩ := I.tuple sq
      exact go (.inr rfl) ho hc hd rv (by rw [← rv.length]; exact hz)
  · exact q.elim
end
end VL
/-! VL8: [::-1], globals, defs, calls. -/
namespace VL
open PySem PySem.Spec PyProof.Rows L2
/-! ### x[::-1] -/
section
variable {prog : Program} {w : World} {A : Around} {E : Value → Shared → Prop} {s : Shared}
theorem adjust_rev (n : Nat) : Builtin.Slice.sliceAdjust none none (-1) (n : Int) = ((n : Int) - 1, -1) := by
  unfold Builtin.Slice.sliceAdjust
  rfl
theorem places_rev (n : Nat) : Builtin.Slice.slicePlaces ((n : Int) - 1) (-1) (-1) = n := by
  unfold Builtin.Slice.slicePlaces
  have h1 : ¬ ((-1 : Int) > 0) := by omega
  simp only [h1, if_false, Int.neg_neg, Int.ediv_one]
  split <;> omega
theorem fm_congr {α β : Type} {f g : α → Option β} : ∀ {l : List α}, (∀ m ∈ l, f m = g m) → l.filterMap f = l.filterMap g
  | [], _ => rfl
  | a :: l, h => by
    rw [List.filterMap_cons, List.filterMap_cons, h a List.mem_cons_self, fm_congr fun m hm => h m (List.mem_cons_of_mem _ hm)]
theorem pick_rev (xs : Array Value) : ((List.range xs.size).filterMap fun (m : Nat) => xs[(((xs.size : Int) - 1) + (m : Int) * (-1)).toNat]?).toArray = xs.toList.reverse.toArray := by
  congr 1
  have e : (List.range xs.size).filterMap (fun (m : Nat) => xs[(((xs.size : Int) - 1) + (m : Int) * (-1)).toNat]?) = (List.range xs.size).filterMap (some ∘ fun m => (xs.toList.reverse)[m]?.getD .none) := by
    refine fm_congr fun m hm => ?_
    have hm := List.mem_range.mp hm
    have e1 : (((xs.size : Int) - 1) + (m : Int) * (-1)).toNat = xs.size - 1 - m := by omega
    have h2 : xs.size - 1 - m < xs.size := by omega
    rw [e1, Function.comp_apply, List.getElem?_reverse (by simpa using hm), Array.getElem?_eq_getElem h2]
    simp [h2]
  rw [e, List.filterMap_eq_map]
  apply List.ext_getElem
  · simp
  · intro i h1 h2
    simp at h1 h2 ⊢
    rw [List.getElem?_eq_getElem (by simpa using h1)]
    simp
theorem getItem_tuple_rev {t sl : Addr} {items : Array Value} {vs : Value} {Q : Value → Shared → Prop} (ht : IsTup s.heap t items) (hs : s.heap.IsSliceOf sl .none .none vs) (ps : IsPart vs (some (-1)))
    (h : Q (.ref s.heap.objs.size) { s with heap := s.heap.push { cls := .type "tuple", data := .seq items.toList.reverse.toArray } })
    (hsz : items.size ≤ sizeLine) : wpAny (model prog w) A (getItem (.ref t) (.ref sl)) Q E s := by
  have htake : sizeOk (.seq items.toList.reverse.toArray) := by
    show items.toList.reverse.toArray.size ≤ sizeLine
    simpa using hsz
  obtain ⟨os, hos, hcs, hds⟩ := id hs
  have hTs : s.TypeIs (.ref sl) "slice" := ⟨os, hos, hcs⟩
  unfold getItem
  try with_reducible refine wpAny_holding ?_
  first | refine wpAny_bind (wpAny_pure ?_) | skip
  refine wpAny_bind (wpAny_sequenceKey ht.typeIs (by decide) ?_)
  refine wpAny_bind (wpAny_callSpecial?_slot (name := Str.ofString "__getitem__") ht.typeIs PyProof.Rows.slot_tuple_getitem
    (wpAny_call_entry PyProof.Rows.slot_tuple_getitem ht.typeIs entry_tuple_getitem ?_ (args_tuple_getitem _ _)))
  show wpAny _ _ (Builtin.Tuple.tupleItemsOf (.ref t) >>= _) _ _ s
  refine wpAny_bind (tupleItemsOf_ ht ?_)
  refine wpAny_bind (wpAny_typeOf hTs ?_)
  rw [if_pos (by decide)]
  refine wpAny_bind (wpAny_mono (Q := fun r s' => r = (((items.size : Int) - 1), (-1 : Int), items.size) ∧ s' = s) ?_ ?_ fun _ _ z => z)
  · unfold Builtin.Slice.sliceApplied Builtin.Slice.sliceFields
    refine wpAny_bind (wpAny_bind (wpAny_field hos hds (x := .none) rfl (wpAny_bind (wpAny_field hos hds (x := .none) rfl (wpAny_bind (wpAny_field hos hds (x := vs) rfl (wpAny_pure ?_)))))))
    refine wpAny_bind (HT.slicePart_ ps ?_)
    show wpAny _ _ (if ((-1 : Int) == 0) = true then _ else _) _ _ s
    rw [if_neg (by decide)]
    refine wpAny_bind (HT.slicePart_ .none (wpAny_bind (HT.slicePart_ .none (wpAny_bind (wpAny_pure ?_)))))
    show wpAny _ _ (match Builtin.Slice.sliceAdjust none none (-1) (items.size : Int) with | (lo, hi) => pure (lo, (-1 : Int), Builtin.Slice.slicePlaces lo hi (-1))) _ _ s
    rw [adjust_rev]
    show wpAny _ _ (pure (((items.size : Int) - 1), (-1 : Int), Builtin.Slice.slicePlaces ((items.size : Int) - 1) (-1) (-1))) _ _ s
    rw [places_rev]
    exact wpAny_pure ⟨rfl, rfl⟩
  · rintro r s' ⟨rfl, rfl⟩
    show wpAny _ _ (if (((items.size : Int) - 1) == 0 && (-1 : Int) == 1 && items.size == items.size) = true then _ else _) _ _ s'
    rw [if_neg (by simp), pick_rev]
    first
      | exact wpAny_bind (m := Builtin.Tuple.tupleExact _) (wpAny_newObj_type (wpAny_pure ⟨_, rfl, wpAny_pure h⟩) htake)
      | exact wpAny_bind (m := Builtin.Tuple.tupleExact _) (wpAny_newObj_type (wpAny_bind (wpAny_pure (wpAny_pure ⟨_, rfl, wpAny_pure h⟩))) htake)
      | exact wpAny_bind (wpAny_bind (m := Builtin.Tuple.tupleExact _) (wpAny_newObj_type (wpAny_pure (wpAny_pure ⟨_, rfl, wpAny_pure h⟩)) htake))
      | exact wpAny_bind (wpAny_bind (m := Builtin.Tuple.tupleExact _) (wpAny_newObj_type (wpAny_pure ⟨_, rfl, wpAny_pure h⟩) htake))
end
def mRev (d : D) : M D := fun S => match d with
  | .tup ds => .ok (.tup ds.reverse) S
  | d => match listOf S d with
    | some ds => .ok (.lst ds.reverse) S
    | none => .bad
section
variable {T : List NdefX.NTab} {X : Cx} {e : Expr} {f : DEnv → M D} {k : Nat} {p1 p2 p3 pos : Pos}
theorem ev_rev (he : EV T X e f) : EV T X (.Subscript e (.Slice none none (some (.UnaryOp .USub (.Constant (.int 1) k p1) p2)) p3) pos) (e1 mRev f) := by
  refine ⟨fun pins s σ H Q I h => ?_⟩
  obtain ⟨A, en, rfl, ok, re, q⟩ := h
  have q' := Aft.bind q
  cases ef : f en A.S with
  | bad => rw [ef] at q'; exact q'.elim
  | ok d S1 =>
    rw [ef] at q'
    have go : ∀ {R' : V → Hp → Prop}, (∀ A1 v, A1.S = S1 → Ok X.K X.mg T A1 → Ext A A1 → Rep X.K X.mg A1 d v → Fin1 X.K X.mg T A1 (mRev d A1.S) Q → R' v A1.H) → tE X.K X.mg T f σ A.H R' := fun {R'} hh =>
      ⟨A, en, rfl, ok, re, by rw [ef]; exact fun A1 e1 ok1 x1 v rv => hh A1 v e1 ok1 x1 rv (q' A1 e1 ok1 x1)⟩
    have lists : (∀ S, ∀ {R : Res D}, mRev d S = R → R = (match listOf S d with
      | some ds => .ok (.lst ds.reverse) S
      | none => .bad)) → wpAny (model X.prog X.w) X.A (eval (.Subscript e (.Slice none none (some (.UnaryOp .USub (.Constant (.int 1) k p1) p2)) p3) pos) X.env) (EP X pins σ Q) X.xe s := fun hm => by
      refine (pe_revL he).run pins s σ A.H Q I (go fun A1 v e1 ok1 x1 rv q1 => ?_)
      rw [hm A1.S rfl] at q1
      cases e2 : listOf A1.S d with
      | none => rw [e2] at q1; exact q1.elim
      | some ds =>
        rw [e2] at q1
        obtain ⟨a, vs, h1, h2, h3⟩ := listOf_ok ok1 rv e2
        exact ⟨a, vs, h1, h2, fun p hp => Aft.lst ok1 q1 h3.reverse hp⟩
    cases d with
    | tup ds =>
      refine Subscript_ (thn (he.run pins s σ A.H _ I (go (R' := fun v H1 => ∃ A1, A1.H = H1 ∧ Ok X.K X.mg T A1 ∧ Rep X.K X.mg A1 (.tup ds) v ∧ Fin1 X.K X.mg T A1 (.ok (.tup ds.reverse) A1.S) Q) fun A1 v e1 ok1 x1 rv q1 => ⟨A1, rfl, ok1, rv, q1⟩)) fun v s1 ⟨x, H1, I1, r1, A1, eA, ok1, rv, q1⟩ => ?_)
      subst eA
      simp only [Rep] at rv
      obtain ⟨a, xs, ex, hx, rs⟩ := rv
      subst ex
      cases r1
      have hst : PO X (some (.UnaryOp .USub (.Constant (.int 1) k p1) p2)) (tPart (tUn (rU fun i => .int (-i)) (tC (.int 1)))) := po_some (pe_un un_neg pe_int)
      refine wpAny_Slice (thn (po_none.run pins s1 σ A1.H (fun o H2 => o = none ∧ H2 = A1.H) I1 ⟨rfl, rfl⟩) fun vl s2 ⟨l, H2, I2, pl, el, e2⟩ => ?_)
      subst el e2
      refine thn (po_none.run pins s2 σ A1.H (fun o H3 => o = none ∧ H3 = A1.H) I2 ⟨rfl, rfl⟩) fun vu s3 ⟨u, H3, I3, pu, eu, e3⟩ => ?_
      subst eu e3
      refine thn (hst.run pins s3 σ A1.H (fun o H4 => o = some (-1) ∧ H4 = A1.H) I3 ⟨1, rfl, -1, rfl, rfl, rfl⟩) fun vs s4 ⟨o, H4, I4, ps, eo, e4⟩ => ?_
      subst eo e4
      have I5 : Inv X pins σ A1.H { s4 with heap := s4.heap.push { cls := .type "slice", data := .fields #[vl, vu, vs] } } := I4.kept (t' := s4.toks) fun b ob q => Heap.get?_push_of_some _ q
      obtain ⟨its, r, ht, hz⟩ := I5.tuple hx.sq
      have hlen := r.length
      cases pl
      cases pu
      show wpAny (model X.prog X.w) X.A (subscriptTail e (.Slice none none (some (.UnaryOp .USub (.Constant (.int 1) k p1) p2)) p3) (.ref a) (.ref s4.heap.objs.size)) (EP X pins σ Q) X.xe { s4 with heap := s4.heap.push { cls := .type "slice", data := .fields #[.none, .none, vs] } }
      refine tail_any (ops := [.ref a, .ref s4.heap.objs.size]) ht.typeIs (PyProof.Rows.slot_tuple_getitem.lookup) ?_ (by with_unfolding_all rfl)
      refine getItem_tuple_rev ht (Heap.IsSliceOf.new _ .none .none vs) ps ?_ (by rw [List.size_toArray]; omega)
      have hz2 : xs.reverse.length ≤ sizeLine := by rw [List.length_reverse]; exact hz
      have z := laid_tup I5 hz2 r.reverse
      have e5 : its.toArray.toList.reverse.toArray = its.reverse.toArray := by simp
      rw [e5]
      exact ⟨.ref _, _, z, rfl, Aft.tup ok1 q1 rs.reverse (I5.hok.fresh (Nat.le_refl _)) rfl⟩
    | _ => exact lists fun S R e => e.symm
end
/-! ### globals -/
section
variable {T : List NdefX.NTab} {X : Cx} {x : Str} {pos : Pos}
theorem ev_glo {a : Addr} (hg : Gl X x) (hm : X.mg x = some (.ref a)) (hd : (x == ("__debug__" : Str)) = false := by decide) : EV T X (.Name x pos) (eC (.glo x)) := ev_c (pe_glob hg hm (v := .ref a) rfl hd) fun A => by
  simp only [Rep]
  exact ⟨a, rfl, hm⟩
theorem ev_gint {i : Int} {t : Tok} (hg : Gl X x) (hm : X.mg x = some (.int i t)) (hd : (x == ("__debug__" : Str)) = false := by decide) : EV T X (.Name x pos) (eC (.int i)) := ev_c (pe_glob hg hm (v := .int i) ⟨t, rfl⟩ hd) fun A => by
  simp only [Rep]
theorem ev_gstr {i : Str} {t : Tok} (hg : Gl X x) (hm : X.mg x = some (.str i t)) (hd : (x == ("__debug__" : Str)) = false := by decide) : EV T X (.Name x pos) (eC (.str i)) := ev_c (pe_glob hg hm (v := .str i) ⟨t, rfl⟩ hd) fun A => by
  simp only [Rep]
/-- a tuple of the module -/
theorem ev_gtup {a : Addr} {ds : List D} {vs : List V} (hg : Gl X x) (hm : X.mg x = some (.ref a)) (hs : ∀ H, SqT X.K H a vs) (hr : ∀ A, Reps X.K X.mg A ds vs) (hd : (x == ("__debug__" : Str)) = false := by decide) : EV T X (.Name x pos) (eC (.wtup ds)) := ev_c (pe_glob hg hm (v := .ref a) rfl hd) fun A => by
  simp only [Rep]
  exact ⟨a, vs, rfl, hs _, hr A⟩
theorem ev_tyn {n : String} (hg : Gl X x) (hm : X.mg x = none) (hv : bootBuiltins x = some (.type n)) (hn : x ≠ "__name__" := by decide) (hd : (x == ("__debug__" : Str)) = false := by decide) : EV T X (.Name x pos) (eC (.ty n)) := ev_c (pe_bltn hg hm hv (v := .ty n) rfl hn hd) fun A => by
  simp only [Rep]
end
/-! ### defs -/
/-- what a def with n parameters and N names does -/
def fnD (N : Nat) (g : SM) : List D → M D := fun ds S => match g (ds.map some ++ List.replicate (N - ds.length) none) S with
  | .nx _ S' => .ok .non S'
  | .rt d S' => .ok d S'
  | _ => .bad
theorem rep_start {K : PySem.W.Frag} {mg : Str → Option Value} {A : AS} : ∀ {ds : List D} {vs : List V} {m : Nat}, Reps K mg A ds vs → REnv K mg A (ds.map some ++ List.replicate m none) (vs.map some ++ List.replicate m none)
  | ds, vs, m, r => by
    refine ⟨by simp [r.length], fun i d q => ?_⟩
    by_cases h : i < ds.length
    · rw [List.getElem?_append_left (by simpa using h), List.getElem?_map] at q
      cases e : ds[i]? with
      | none => rw [e] at q; cases q
      | some d' =>
        rw [e] at q
        cases q
        obtain ⟨v, h1, h2⟩ := r.get e
        refine ⟨v, ?_, h2⟩
        rw [List.getElem?_append_left (by rw [List.length_map, ← r.length]; exact h), List.getElem?_map, h1]
        rfl
    · rw [List.getElem?_append_right (by simpa using h), List.getElem?_replicate] at q
      split at q <;> cases q
/-- the context of a def's body -/
abbrev cxD (P : Program) (w : World) (K : PySem.W.Frag) (mg : Str → Option Value) (base : Heap) (N : List Str) (qual : Str) (scope : Scope) (f : Addr) (cd : Value) (A : Around) (outer : List Env) (s : Shared) (H : Hp) : Cx := (cxOf CX0 P w K mg base N qual scope f cd A outer s H fun _ _ _ => False).nox
theorem fn_ok {T : List NdefX.NTab} {P : Program} {w : World} {K : PySem.W.Frag} {mg : Str → Option Value} {base : Heap} {x qual : Str} {params : Arguments} {body : List Stmt} {scope : Scope} {f : Addr} {N ps : List Str} {k : Nat} {g : SM} {dV kV doc pm cdv ct oc : Value} {an od : Option Addr} {osl : Array (Option Value)}
    (lk : K.lookup f = some ⟨oc, od, .func (PySem.W.fnOf x qual params body scope dV kV doc pm an cdv ct), osl⟩) (hcd : PySem.W.codeIn K cdv qual = true) (S : FnScope N ps scope) (hbody : ∀ (A : Around) (outer : List Env) (s : Shared) (H : Hp), RoomG k (A.deeper (envOfC qual scope s.heap.objs.size f cdv)) → SsV T (cxD P w K mg base N qual scope f cdv A outer s H) body g) :
    FnG P w K mg base T (k + 1) f (PySem.W.fnOf x qual params body scope dV kV doc pm an cdv ct) ps (fnD N.length g) := by
  refine ⟨fun A outer s H args us vs Q hr e0 hb r h => ?_⟩
  refine LamX.run_ofS (N := N) (ps := ps) lk hcd S hr.r e0 hb r (rL_len h) fun hr' => ⟨tS K mg T g, PSs.nox (hbody A outer s H ⟨hr', hr.g⟩), ?_⟩
  obtain ⟨A0, ds, rfl, ok, rs, q⟩ := h
  obtain ⟨c, q⟩ := fin_if q
  refine ⟨A0, ds.map some ++ List.replicate (N.length - ds.length) none, rfl, ok, ?_, ?_⟩
  · unfold L2.start
    rw [rs.length]
    exact rep_start rs
  · unfold fnD at q
    cases eg : g (ds.map some ++ List.replicate (N.length - ds.length) none) A0.S with
    | nx en S' => rw [eg] at q; exact fun A' σ' e ok' x' _ => q A' e ok' x' .non (by simp only [Rep])
    | rt d S' => rw [eg] at q; exact fun A' v e ok' x' rv => q A' e ok' x' v rv
    | bk en S' => rw [eg] at q; exact q.elim
    | ct en S' => rw [eg] at q; exact q.elim
    | bad => rw [eg] at q; exact q.elim
/-- the module has the def d, that takes ps and does F -/
structure Has (T : List NdefX.NTab) (P : Program) (w : World) (K : PySem.W.Frag) (mg : Str → Option Value) (base : Heap) (k : Nat) (d : He.DefD) (ps : List Str) (F : List D → M D) : Prop where
  ex : ∃ (f : Addr) (fd : FuncData), mg d.name = some (.ref f) ∧ FunD K d.name d.qual d.params d.body d.scope [] [] f fd ∧ FnG P w K mg base T k f fd ps F
/-- the binding of positional arguments -/
def PosOk (d : He.DefD) (ps : List Str) : Prop := ∀ (kV doc pm : Value) (an : Option Addr) (cdv ct : Value) (us : List Value), us.length = ps.length → bindArgs (PySem.W.fnOf d.name d.qual d.params d.body d.scope .none kV doc pm an cdv ct) ⟨us, []⟩ = pure (ps.zip us)
/-- n positional ones, the rest by the names ks -/
def KwOk (d : He.DefD) (ps : List Str) (n : Nat) (ks : List Str) (g : {α : Type} → List α → List α → List α) : Prop := ∀ (kV doc pm : Value) (an : Option Addr) (cdv ct : Value) (us ws : List Value), us.length = n → ws.length = ks.length → bindArgs (PySem.W.fnOf d.name d.qual d.params d.body d.scope .none kV doc pm an cdv ct) ⟨us, ks.zip ws⟩ = pure (ps.zip (g us ws))
theorem Has.of {T : List NdefX.NTab} {P : Program} {w : World} {K : PySem.W.Frag} {mg : Str → Option Value} {base : Heap} {d : He.DefD} {N ps : List Str} {k : Nat} {g : SM} {f : Addr} {fd : FuncData}
    (hm : mg d.name = some (.ref f)) (F : FunD K d.name d.qual d.params d.body d.scope [] [] f fd) (S : FnScope N ps d.scope) (hbody : ∀ (cdv : Value) (A : Around) (outer : List Env) (s : Shared) (H : Hp), RoomG k (A.deeper (envOfC d.qual d.scope s.heap.objs.size f cdv)) → SsV T (cxD P w K mg base N d.qual d.scope f cdv A outer s H) d.body g) :
    Has T P w K mg base (k + 1) d ps (fnD N.length g) := by
  obtain ⟨oc, od, dV, kV, doc, pm, an, cdv, ct, osl, rfl, lk, hcd, _, _⟩ := id F.ex
  exact ⟨f, _, hm, F, fn_ok lk hcd S fun A outer s H hr => hbody cdv A outer s H hr⟩
theorem Has.mono {T : List NdefX.NTab} {P : Program} {w : World} {K : PySem.W.Frag} {mg : Str → Option Value} {base : Heap} {d : He.DefD} {ps : List Str} {j k : Nat} {F : List D → M D} (G : Has T P w K mg base j d ps F) (h : j ≤ k) : Has T P w K mg base k d ps F :=
  let ⟨f, fd, a, b, c⟩ := G.ex; ⟨f, fd, a, b, c.mono h⟩
section
variable {T : List NdefX.NTab} {X : Cx} {x : Str} {pos p : Pos} {e : Expr} {es : List Expr} {fs fk : DEnv → M (List D)} {k n : Nat} {d : He.DefD} {ps ks : List Str} {F : List D → M D} {kws : List Keyword}
theorem ev_f (G : Has T X.prog X.w X.K X.mg X.base k d ps F) (hr : RoomG k X.A) (hg : Gl X x) (hx : d.name = x) (hb : PosOk d ps) (ha : AV T X (e :: es) fs) (hdb : (x == ("__debug__" : Str)) = false := by decide) (he : starEach (e :: es) X.env = (false, eval e X.env) :: starEach es X.env := by rfl)
    (hpl : (backTo pos (starEach es X.env)).any (·.1) = false := by rfl) : EV T X (.Call (.Name x p) (e :: es) [] pos) (eCall (mArgs ps.length F) fs) := by
  obtain ⟨f, fd, hm, FD, FO⟩ := G.ex
  subst hx
  exact ev_call FO hr hg hm FD.kp (FD.bindsN hb) ha hdb he hpl
theorem kbinds_of {K : PySem.W.Frag} {fd : FuncData} {f : Addr} {g : {α : Type} → List α → List α → List α} (FD : FunD K d.name d.qual d.params d.body d.scope [] [] f fd) (hb : KwOk d ps n ks g) (hl : ∀ (us ws : List Value), (g us ws).length = ps.length → us.length = n ∧ ws.length = ks.length)
    (hrel : ∀ {vs : List V} {us : List Value} {zs : List V} {ws : List Value}, Vals vs us → Vals zs ws → Vals (g vs zs) (g us ws)) : KBinds K fd ps ks g g := by
  obtain ⟨oc, od, dV, kV, doc, pm, an, cdv, ct, osl, rfl, lk, hcd, hD, hK⟩ := FD.ex
  refine ⟨fun s us ws _ hlen => ?_, hrel⟩
  obtain ⟨l1, l2⟩ := hl us ws hlen
  rcases hD with ⟨_, rfl⟩ | ⟨e, _⟩
  · exact .of_eq (hb kV doc pm an cdv ct us ws l1 l2)
  · exact absurd rfl e
end
end VL
/-! VL9: keywords; a name that holds a def. -/
namespace VL
open PySem PySem.Spec PyProof.Rows L2
/-- n positional values, then m by keywords -/
def gK (n m : Nat) {α : Type} (us ws : List α) : List α := if us.length = n ∧ ws.length = m then us ++ ws else []
abbrev KV (T : List NdefX.NTab) (X : Cx) (kws : List Keyword) (f : DEnv → M (List D)) : Prop := PK X kws (tA X.K X.mg T f)
def eCallK (n m : Nat) (F : List D → M D) (fs fk : DEnv → M (List D)) : DEnv → M D := fun en => M.bind (fs en) fun ds => M.bind (fk en) fun ks => F (gK n m ds ks)
section
variable {T : List NdefX.NTab} {X : Cx} {x : Str} {pos p kpos : Pos} {e : Expr} {es : List Expr} {f : DEnv → M D} {fs fk : DEnv → M (List D)} {k n i : Nat} {d : He.DefD} {ps ks : List Str} {F : List D → M D} {kws : List Keyword} {nm : Option Str}
theorem pk_imp {X : Cx} {e : List Keyword} {t t' : TA} (h : PK X e t) (i : ∀ σ H Q, t' σ H Q → t σ H Q) : PK X e t' := ⟨fun pos pins s σ H Q I q => h.run pos pins s σ H Q I (i _ _ _ q)⟩
theorem kv_nil : KV T X [] aNil := by
  refine pk_imp pk_nil ?_
  rintro σ H Q ⟨A, en, rfl, ok, re, q⟩
  exact q A rfl ok (Ext.refl A) [] (by simp only [Reps])
theorem kv_cons (ha : EV T X e f) (hs : KV T X kws fk) : KV T X (⟨nm, e, kpos⟩ :: kws) (aCons f fk) := by
  refine pk_imp (pk_cons ha hs) ?_
  rintro σ H Q ⟨A, en, rfl, ok, re, q⟩
  refine ⟨A, en, rfl, ok, re, (Aft.bind q).mono fun d A1 ok1 x1 q1 v rv => ⟨A1, en, rfl, ok1, re.ext ok x1, (Aft.bind q1).mono fun ds A2 ok2 x2 q2 vs rs => ?_⟩⟩
  exact q2 A2 rfl ok2 (Ext.refl A2) _ (by simp only [Reps]; exact ⟨v, vs, rfl, rv.ext ok1 x2 _ _, rs⟩)
theorem kb_gK {K : PySem.W.Frag} {fd : FuncData} {f : Addr} (FD : FunD K d.name d.qual d.params d.body d.scope [] [] f fd) (h0 : ps.length ≠ 0) (hb : KwOk d ps n ks (fun us ws => us ++ ws)) : KBinds K fd ps ks (gK n ks.length) (gK n ks.length) := by
  refine kbinds_of FD (n := n) (g := fun {α} us ws => gK n ks.length us ws) (fun kV doc pm an cdv ct us ws h1 h2 => ?_) (fun us ws h => ?_) fun {vs us zs ws} h1 h2 => ?_
  · have e : gK n ks.length us ws = us ++ ws := if_pos ⟨h1, h2⟩
    show _ = pure (ps.zip (gK n ks.length us ws))
    rw [e]
    exact hb kV doc pm an cdv ct us ws h1 h2
  · have h : (gK n ks.length us ws).length = ps.length := h
    unfold gK at h
    split at h
    · assumption
    · exact absurd h.symm h0
  · show Vals (gK n ks.length vs zs) (gK n ks.length us ws)
    unfold gK
    rw [h1.length, h2.length]
    split
    · exact h1.append h2
    · exact .nil
theorem gK_reps {K : PySem.W.Frag} {mg : Str → Option Value} {A : AS} {n m : Nat} {ds ks : List D} {vs ws : List V} (r1 : Reps K mg A ds vs) (r2 : Reps K mg A ks ws) : Reps K mg A (gK n m ds ks) (gK n m vs ws) := by
  unfold gK
  rw [r1.length, r2.length]
  split
  · exact r1.append r2
  · simp only [Reps]
theorem ev_fk (G : Has T X.prog X.w X.K X.mg X.base k d ps F) (hr : RoomG k X.A) (hg : Gl X x) (hx : d.name = x) (h0 : ps.length ≠ 0) (hb : KwOk d ps n ks fun us ws => us ++ ws) (ha : AV T X (e :: es) fs) (hkw : KV T X kws fk)
    (hall : (backToKw pos (keywordEach kws X.env)).all (·.1.isSome) = true := by rfl) (hks : (backToKw pos (keywordEach kws X.env)).filterMap (·.1) = ks := by rfl)
    (hdb : (x == ("__debug__" : Str)) = false := by decide) (he : starEach (e :: es) X.env = (false, eval e X.env) :: starEach es X.env := by rfl)
    (hpl : ((backTo pos (starEach (e :: es) X.env)).any (·.1) || (backToKw pos (keywordEach kws X.env)).any (·.1.isNone)) = false := by rfl) :
    EV T X (.Call (.Name x p) (e :: es) kws pos) (eCallK n ks.length (mArgs ps.length F) fs fk) := by
  obtain ⟨f, fd, hm, FD, FO⟩ := G.ex
  subst hx
  exact ev_callK (gD := gK n ks.length) FO hr hg hm FD.kp (kb_gK FD h0 hb) ha hkw (fun A ds ks vs ws r1 r2 => gK_reps r1 r2) hall hks hdb he hpl
/-- all by keywords -/
theorem ev_fk0 (G : Has T X.prog X.w X.K X.mg X.base k d ps F) (hr : RoomG k X.A) (hg : Gl X x) (hx : d.name = x) (h0 : ps.length ≠ 0) (hb : KwOk d ps 0 ks fun us ws => us ++ ws) (hkw : KV T X kws fk)
    (hall : (backToKw pos (keywordEach kws X.env)).all (·.1.isSome) = true := by rfl) (hks : (backToKw pos (keywordEach kws X.env)).filterMap (·.1) = ks := by rfl)
    (hdb : (x == ("__debug__" : Str)) = false := by decide)
    (hpl : ((backTo pos (starEach [] X.env)).any (·.1) || (backToKw pos (keywordEach kws X.env)).any (·.1.isNone)) = false := by rfl) :
    EV T X (.Call (.Name x p) [] kws pos) (eCallK 0 ks.length (mArgs ps.length F) aNil fk) := by
  obtain ⟨f, fd, hm, FD, FO⟩ := G.ex
  subst hx
  have KB := kb_gK FD h0 hb
  refine ⟨fun pins s σ H Q I h => ?_⟩
  obtain ⟨A, en, rfl, ok, re, q⟩ := h
  refine wpAny_Call_Name_kw (ld_glob I hg hm ?_ hdb)
  refine PySem.W.callWith_KW0 (h₀ := X.base) I.ok.mod.kin FD.kp hall ?_ hpl
  refine thn (hkw.run pos pins s σ A.H (fun zs H1 => ∃ A1 ds, A1.H = H1 ∧ Ok X.K X.mg T A1 ∧ Reps X.K X.mg A1 ds zs ∧ Fin1 X.K X.mg T A1 (mArgs ps.length F (gK 0 ks.length [] ds) A1.S) Q) I ⟨A, en, rfl, ok, re, ?_⟩) fun ws s2 ⟨zs, H2, I2, rz, A1, ds, e1, ok1, r1, q1⟩ => ⟨I2.kIn, ?_⟩
  · have q2 : Aft X.K X.mg T A (M.bind (fk en) (fun ds => mArgs ps.length F (gK 0 ks.length [] ds)) A.S) fun d A' => ∀ v, Rep X.K X.mg A' d v → Q v A'.H := q
    exact (Aft.bind q2).mono fun ds A1 ok1 x1 q3 zs rs => ⟨A1, ds, rfl, ok1, rs, q3⟩
  · subst e1
    rw [hks]
    refine call_ret I2 ?_
    have hrel : Vals (gK 0 ks.length [] zs) (gK 0 ks.length [] ws) := KB.rel .nil rz
    have q3 : rL X.K X.mg T (mArgs ps.length F) (gK 0 ks.length [] zs) A1.H Q := ⟨A1, _, rfl, ok1, gK_reps (by simp only [Reps]) r1, q1⟩
    have hl : (gK 0 ks.length [] ws).length = ps.length := by rw [← hrel.length]; exact rL_len q3
    exact FO.run X.A X.stack s2 A1.H _ _ _ Q hr I2.env0 (KB.to s2 [] ws I2.kIn hl) hrel q3
/-- x(..), x a name that holds a def of the module -/
def eCallG (i : Nat) (Φ : Str → Option (List D → M D)) (fs : DEnv → M (List D)) : DEnv → M D := fun en => M.bind (eVar i en) fun d => match d with
  | .glo y => match Φ y with
    | some F => M.bind (fs en) F
    | none => M.bad
  | _ => M.bad
theorem ev_callG {Φ : Str → Option (List D → M D)} (hΦ : ∀ y F, Φ y = some F → ∃ (d : He.DefD) (ps : List Str) (F' : List D → M D), d.name = y ∧ Has T X.prog X.w X.K X.mg X.base k d ps F' ∧ PosOk d ps ∧ F = mArgs ps.length F') (hr : RoomG k X.A) (i : Nat) (ha : AV T X (e :: es) fs)
    (hN : X.N[i]? = some x := by rfl) (hv : Vis X.env.scope x := by first | exact Or.inl rfl | exact Or.inr (Or.inl rfl) | exact Or.inr (Or.inr rfl))
    (hdb : (x == ("__debug__" : Str)) = false := by decide) (hcd : (x == ("__classdict__" : Str)) = false := by decide)
    (he : starEach (e :: es) X.env = (false, eval e X.env) :: starEach es X.env := by rfl) (hpl : (backTo pos (starEach es X.env)).any (·.1) = false := by rfl) : EV T X (.Call (.Name x p) (e :: es) [] pos) (eCallG i Φ fs) := by
  refine ⟨fun pins s σ H Q I h => ?_⟩
  obtain ⟨A, en, rfl, ok, re, q⟩ := h
  have q1 := Aft.bind q
  unfold eVar at q1
  cases h1 : en[i]? with
  | none => rw [h1] at q1; exact q1.elim
  | some o =>
    rw [h1] at q1
    cases o with
    | none => exact q1.elim
    | some d =>
      have q2 := Aft.now ok q1
      cases d with
      | glo y =>
        simp only [] at q2
        cases h2 : Φ y with
        | none => rw [h2] at q2; exact q2.elim
        | some F =>
          rw [h2] at q2
          obtain ⟨v, hs, rv⟩ := re.get h1
          simp only [Rep] at rv
          obtain ⟨a, rfl, hm⟩ := rv
          obtain ⟨d, ps, F', hy, G, hb, eF⟩ := hΦ y F h2
          obtain ⟨f, fd, hm2, FD, FO⟩ := G.ex
          rw [hy, hm] at hm2
          cases hm2
          subst eF
          refine wpAny_Call_Name_kw (thn ((pe_var (pos := p) hN hv hdb hcd).run pins s σ A.H (fun v H1 => v = .ref a ∧ H1 = A.H) I ⟨.ref a, hs, rfl, rfl⟩) fun u s1 ⟨v, H1, I1, r1, ev, eH⟩ => ?_)
          subst ev
          subst eH
          obtain rfl : u = Value.ref a := r1
          refine PySem.W.callWith_K (h₀ := X.base) I1.ok.mod.kin FD.kp (thn (ha.run pos pins s1 σ A.H (fun vs H2 => rL X.K X.mg T (mArgs ps.length F') vs H2 Q) I1 ⟨A, en, rfl, ok, re, (Aft.bind q2).mono fun ds A1 ok1 x1 q3 vs rs => ⟨A1, ds, rfl, ok1, rs, q3⟩⟩) fun us s2 ⟨vs, H2, I2, r, q4⟩ => ⟨I2.kIn, call_ret I2 ?_⟩) he hpl
          have hl : us.length = ps.length := by rw [← r.length]; exact rL_len q4
          have hb1 := FD.bindsN hb s2 us I2.kIn (by rw [List.append_nil]; exact hl)
          rw [List.append_nil] at hb1
          exact FO.run X.A X.stack s2 H2 _ us vs Q hr I2.env0 hb1 r q4
      | _ => exact q2.elim
end
/-! ### a op1 b op2 c; x, y, z = a, b, c -/
def eChain (m m' : D → D → M D) (f g h : DEnv → M D) : DEnv → M D := fun en => M.bind (f en) fun x => M.bind (g en) fun y => M.bind (m x y) fun r => M.bind (mBool r) fun b => if b = true then M.bind (h en) fun z => m' y z else M.pure (.bl false)
def sPar3 (i j l : Nat) (f : DEnv → M (List D)) : SM := fun en => sB (f en) fun ds S => match ds with
  | [d, e, c] => .nx (((en.set i (some d)).set j (some e)).set l (some c)) S
  | _ => .bad
section
variable {T : List NdefX.NTab} {X : Cx} {a b c : Expr} {f g h : DEnv → M D} {pos : Pos} {op op' : CmpOp} {m m' : D → D → M D}
theorem chain_of {K : PySem.W.Frag} {mg : Str → Option Value} {σ : L2.St} {H : Hp} {Q : VK} (q : tE K mg T (eChain m m' f g h) σ H Q) : tChain (r2 K mg T m) (r2 K mg T m') (tE K mg T f) (tE K mg T g) (tE K mg T h) σ H Q := by
  obtain ⟨A, en, rfl, ok, re, q⟩ := q
  refine ⟨A, en, rfl, ok, re, (Aft.bind q).mono fun x A1 ok1 x1 q1 v rv => ⟨A1, en, rfl, ok1, re.ext ok x1, (Aft.bind q1).mono fun y A2 ok2 x2 q2 u ru => ⟨A2, x, y, rfl, ok2, rv.ext ok1 x2 _ _, ru, (Aft.bind q2).mono fun r A3 ok3 x3 q3 z rz => ?_⟩⟩⟩
  have q4 := Aft.bind q3
  cases r with
  | bl k =>
    simp only [Rep] at rz
    refine ⟨k, rz, ?_⟩
    have q5 := Aft.now ok3 q4
    cases k with
    | true =>
      refine iteT ⟨A3, en, rfl, ok3, ((re.ext ok x1).ext ok1 x2).ext ok2 x3, (Aft.bind (show Aft K mg T A3 (M.bind (h en) (fun z => m' y z) A3.S) _ from q5)).mono fun z A4 ok4 x4 q6 w rw1 => ?_⟩
      exact ⟨A4, y, z, rfl, ok4, (ru.ext ok2 x3 _ _).ext ok3 x4 _ _, rw1, q6⟩
    | false => exact iteF (Aft.val ok3 q5 (by simp only [Rep]))
  | _ => exact q4.elim
theorem ev_chain (ho : OpR X (compareOp op) (r2 X.K X.mg T m)) (ho' : OpR X (compareOp op') (r2 X.K X.mg T m')) (ha : EV T X a f) (hb : EV T X b g) (hc : EV T X c h) (hm : lastMarks [op, op'] [b, c] = false := by with_unfolding_all rfl) :
    EV T X (.Compare a [op, op'] [b, c] pos) (eChain m m' f g h) := pe_imp (pe_chain ho ho' ha hb hc hm) fun σ H Q q => chain_of q
theorem tv_chain (ho : OpR X (compareOp op) (r2 X.K X.mg T m)) (ho' : OpR X (compareOp op') (r2 X.K X.mg T m')) (ha : EV T X a f) (hb : EV T X b g) (hc : EV T X c h) (hm : lastMarks [op, op'] [b, c] = false := by with_unfolding_all rfl) :
    TV T X (.Compare a [op, op'] [b, c] pos) (tst (eChain m m' f g h)) := pt_imp (pt_chain ho ho' ha hb hc hm) fun σ H Q q => chain_of (tst_of q)
theorem sv_par3 {i j l : Nat} {x y z : Str} {fs : DEnv → M (List D)} {px py pz pt : Pos} {kt k2 : Nat} {pt2 : Pos} (hc : X.calm = true) (hN : X.N.Nodup) (hi : X.N[i]? = some x) (hj : X.N[j]? = some y) (hl : X.N[l]? = some z) (hij : i ≠ j) (hil : i ≠ l) (hjl : j ≠ l)
    (hx : X.env.scope.names.lookup x = some .local) (hy : X.env.scope.names.lookup y = some .local) (hz : X.env.scope.names.lookup z = some .local) (ha : AV T X [a, b, c] fs)
    (hw : swappedStores [.Tuple [.Name x px, .Name y py, .Name z pz] kt pt] (.Tuple [a, b, c] k2 pt2) X.env = pure (some [x, y, z]))
    (hs : swapsWithSole [.Tuple [.Name x px, .Name y py, .Name z pz] kt pt] (.Tuple [a, b, c] k2 pt2) pos.line X.env = pure false := by rfl) :
    SV T X (.Assign [.Tuple [.Name x px, .Name y py, .Name z pz] kt pt] (.Tuple [a, b, c] k2 pt2) pos) (sPar3 i j l fs) := by
  refine ps_imp (ps_par3 hc hN hi hj hl hij hil hjl hx hy hz ha hw hs) ?_
  rintro B σ H ⟨A, en, rfl, ok, re, q⟩
  refine ⟨A, en, rfl, ok, re, (SAft.bind q).mono fun ds A1 ok1 x1 q1 vs rs => ?_⟩
  match ds, q1, rs with
  | [d, e, c], q1, rs =>
    simp only [Reps] at rs
    obtain ⟨v, _, rfl, r1, w, _, rfl, r2, u, _, rfl, r3, rfl⟩ := rs
    exact ⟨v, w, u, rfl, q1 A1 _ rfl ok1 (Ext.refl A1) ((((re.ext ok x1).set i r1).set j r2).set l r3)⟩
  | [], q1, _ => exact q1.elim
  | [_], q1, _ => exact q1.elim
  | [_, _], q1, _ => exact q1.elim
  | _ :: _ :: _ :: _ :: _, q1, _ => exact q1.elim
end
/-- no call of the def answers: the bottom of a recursion -/
theorem Has.zero {T : List NdefX.NTab} {P : Program} {w : World} {K : PySem.W.Frag} {mg : Str → Option Value} {base : Heap} {d : He.DefD} {ps : List Str} {k : Nat} {f : Addr} {fd : FuncData}
    (hm : mg d.name = some (.ref f)) (F : FunD K d.name d.qual d.params d.body d.scope [] [] f fd) : Has T P w K mg base k d ps (fun _ _ => .bad) := by
  have no : ∀ {vs H Q}, ¬ rL K mg T (mArgs ps.length (fun _ _ => .bad)) vs H Q := fun ⟨A, ds, _, _, _, q⟩ => (fin_if q).2.elim
  exact ⟨f, fd, hm, F, ⟨fun A outer s H args us vs Q hr e0 hb hv h => (no h).elim⟩⟩
end VL
/-! VL10: lambdas handed to a def. -/
namespace VL
open PySem PySem.Spec PyProof.Rows L2 NdefX
/-- a lambda's text -/
structure LT where
  params : Arguments
  body : Expr
  scope : Scope
abbrev lamFd (t : LT) (q : Str) (cl : List (Str × Addr)) (c : Addr) (pm ctv : Value) : FuncData := PySem.W.kla_fn "<lambda>" q t.params t.body t.scope cl pm (.ref c) ctv
/-- the lambda L stands at its place; the captured cells hold what they held -/
structure LamHere (t : LT) (cl : List (Str × Addr)) (fr : List Str) (L : LK) (fs : List Addr) (s : Shared) (H : Hp) : Prop where
  obj : ∃ pm ctv : Value, s.heap.get? L.a = some { cls := .type "function", data := .func (lamFd t L.q cl L.c pm ctv) }
  free : H L.a = none
  nofr : L.a ∉ fs
  cells : CellsAt cl fr (L.ws.map some) s.heap H
section
variable {t : LT} {cl : List (Str × Addr)} {fr : List Str} {L : LK} {fs fs' : List Addr} {s s' : Shared} {H H' : Hp}
theorem LamHere.later (h : LamHere t cl fr L fs s H) (un : Un fs [] H H' s.heap s'.heap) (hn : L.a ∉ fs') : LamHere t cl fr L fs' s' H' := by
  obtain ⟨pm, ctv, ho⟩ := h.obj
  have kp : ∀ c v, H c = none → s.heap.IsCell c v → s'.heap.IsCell c v := fun c v n ⟨o, h1, h2⟩ => by
    obtain ⟨sl, z⟩ := un.any h1 n (by simp)
    exact ⟨_, z, h2⟩
  refine ⟨⟨pm, ctv, un.keep _ _ ho h.free h.nofr (by simp)⟩, un.free _ _ ho h.free (by simp), hn, h.cells.len, fun y c e => ?_, h.cells.inj, fun i y e => ?_⟩
  · obtain ⟨n, v, z⟩ := h.cells.all y c e
    refine ⟨?_, v, kp c v n z⟩
    obtain ⟨o, h1, h2⟩ := z
    exact un.free c o h1 n (by simp)
  · obtain ⟨c, hc, hv⟩ := h.cells.has i y e
    refine ⟨c, hc, fun v ev => ?_⟩
    obtain ⟨u, r, z⟩ := hv v ev
    exact ⟨u, r, kp c _ (h.cells.all y c hc).1 z⟩
end
abbrev lamNF (t : LT) (q : Str) (cl : List (Str × Addr)) (c : Addr) : NF := ⟨"<lambda>", q, t.params, [], t.scope, cl, c⟩
/-- what the lambda does -/
structure LamDoes (T : List NTab) (P : Program) (w : World) (K : PySem.W.Frag) (mg : Str → Option Value) (base : Heap) (k : Nat) (t : LT) (ps fr : List Str) (fb : DEnv → M D) : Prop where
  scope : NScope (ps ++ fr) ps fr t.scope
  bind : ∀ (q : Str) (cl : List (Str × Addr)) (c : Addr) (pm ctv : Value) (us : List Value), us.length = ps.length → bindArgs (lamFd t q cl c pm ctv) ⟨us, []⟩ = pure (ps.zip us)
  body : ∀ (q : Str) (cl : List (Str × Addr)) (c f : Addr) (A : Around) (outer : List Env) (s : Shared) (H : Hp), RoomG k (A.deeper (envF (lamNF t q cl c) f s.heap.objs.size)) → EV T (ncx CX0 P w K mg base (ps ++ fr) (lamNF t q cl c) f A outer s H fun _ _ _ => False) t.body fb
/-- .. as a function of what it captured and of its arguments -/
def lamF (n m : Nat) (fb : DEnv → M D) : List D → List D → M D := fun ds es => if es.length = n ∧ ds.length = m then fb (es.map some ++ ds.map some) else M.bad
open Classical in
/-- x(..), x a name that holds the lambda L -/
noncomputable def eCallL (L : LK) (i : Nat) (Φ : List D → List D → M D) (fs : DEnv → M (List D)) : DEnv → M D := fun en => M.bind (eVar i en) fun d => match d with
  | .lam L' ds => if L' = L then M.bind (fs en) (Φ ds) else M.bad
  | _ => M.bad
theorem renv_app {K : PySem.W.Frag} {mg : Str → Option Value} {A : AS} {es ds : List D} {vs ws : List V} (r1 : Reps K mg A es vs) (r2 : Reps K mg A ds ws) : REnv K mg A (es.map some ++ ds.map some) (vs.map some ++ (ws.map some ++ List.replicate 0 none)) := by
  have h := rep_start (m := 0) (r1.append r2)
  simpa using h
section
variable {T : List NTab} {X : Cx} {x : Str} {pos p : Pos} {e : Expr} {es : List Expr} {fs : DEnv → M (List D)} {k i : Nat} {L : LK} {t : LT} {cl : List (Str × Addr)} {ps fr : List Str} {fb : DEnv → M D}
theorem lam_run {pins : List (Addr × Obj)} {σ : L2.St} {s : Shared} {us : List Value} {vs : List V} {Q : VK} {A : AS} {ds as : List D} (I : Inv X pins σ A.H s) (hz : LamHere t cl fr L (frs X.stack) s A.H) (G : LamDoes T X.prog X.w X.K X.mg X.base k t ps fr fb) (hr : RoomG (k + 1) X.A)
    (r : Vals vs us) (ok : Ok X.K X.mg T A) (ra : Reps X.K X.mg A as vs) (rd : Reps X.K X.mg A ds L.ws) (hc : A.H L.c = some (LamX.CodeO L.c L.q)) (q : Fin1 X.K X.mg T A (lamF ps.length fr.length fb ds as A.S) Q) :
    wpAny (model X.prog X.w) X.A (call (.ref L.a) us) (EP X pins σ Q) X.xe s := by
  obtain ⟨pm, ctv, ho⟩ := hz.obj
  have q0 : Fin1 X.K X.mg T A (if as.length = ps.length ∧ ds.length = fr.length then fb (as.map some ++ ds.map some) A.S else .bad) Q := by
    unfold lamF at q
    split at q
    · rename_i z; rw [if_pos z]; exact q
    · exact q.elim
  obtain ⟨⟨hl1, hl2⟩, q⟩ := fin_if q0
  have hlu : us.length = ps.length := by rw [← r.length, ← hl1, ra.length]
  have hlw : L.ws.length = fr.length := by rw [← hl2, rd.length]
  have rc : codeAny (model X.prog X.w) X.A (.call (.ref L.a) ⟨us, []⟩) (CR CX0 X.stack X.prog X.w A.H s Q fun _ _ _ => False) s := by
    refine PySem.W.kla_callFunE hr.depth ho rfl G.scope.co G.scope.gen rfl (codeO_at I.hok hc) ?_
    rw [G.bind _ _ _ _ _ us hlu]
    refine wpAny_pure (wpAny_newFunctionEnv G.scope.nocell (fun ⟨n, _⟩ hy => G.scope.par n (List.of_mem_zip hy).1) (fun h₁ hns hsb => ⟨I.nolimit.fresh _ hsb, ?_⟩) G.scope.kind)
    have kp : ∀ b o, s.heap.get? b = some o → h₁.get? b = some o := fun b o e =>
      hsb.extBut b o (Nat.ne_of_lt (Heap.lt_size e)) (Heap.get?_push_of_some _ e)
    have J : Inv (ncx CX0 X.prog X.w X.K X.mg X.base (ps ++ fr) (lamNF t L.q cl L.c) L.a X.A X.stack s A.H fun _ _ _ => False) [] (startF (ps ++ fr) vs (L.ws.map some)) A.H { s with heap := h₁, toks := s.toks + (ps.zip us).length } :=
      inv_startN (F := lamNF t L.q cl L.c) G.scope hr.hd I.env0 (by rw [r.length]; exact hlu) r hz.cells hns kp
    show codeAny _ _ (.expr t.body (envF (lamNF t L.q cl L.c) L.a s.heap.objs.size)) _ _
    refine PySem.W.kla_codeExpr (wpAny_mono ((G.body L.q cl L.c L.a X.A X.stack s A.H (hr.deeper _)).run [] _ _ A.H Q J ⟨A, as.map some ++ ds.map some, rfl, ok, ?_, q⟩) (fun v s' hq => ?_) fun e s' hq => hq)
    · have hz0 : (ps ++ fr).length - vs.length - (L.ws.map some).length = 0 := by
        rw [List.length_append, List.length_map, hlw, r.length, hlu]; omega
      unfold startF
      rw [hz0]
      exact renv_app ra rd
    · obtain ⟨w', H', J', rv, q'⟩ := hq
      exact ⟨w', H', J'.os, J'.bare, J'.base, J'.hok, rv, q'⟩
  exact call_ret I rc
theorem ev_callL (hz : LamHere t cl fr L X.fs X.s_0 X.H_0) (hex : X.ex = []) (hst : L.a ∉ frs X.stack) (G : LamDoes T X.prog X.w X.K X.mg X.base k t ps fr fb) (hr : RoomG (k + 1) X.A) (i : Nat) (ha : AV T X (e :: es) fs)
    (hN : X.N[i]? = some x := by rfl) (hv : Vis X.env.scope x := by first | exact Or.inl rfl | exact Or.inr (Or.inl rfl) | exact Or.inr (Or.inr rfl))
    (hdb : (x == ("__debug__" : Str)) = false := by decide) (hcd : (x == ("__classdict__" : Str)) = false := by decide)
    (he : starEach (e :: es) X.env = (false, eval e X.env) :: starEach es X.env := by rfl) (hpl : (backTo pos (starEach es X.env)).any (·.1) = false := by rfl) :
    EV T X (.Call (.Name x p) (e :: es) [] pos) (eCallL L i (lamF ps.length fr.length fb) fs) := by
  refine ⟨fun pins s σ H Q I h => ?_⟩
  obtain ⟨A, en, rfl, ok, re, q⟩ := h
  have q1 := Aft.bind q
  unfold eVar at q1
  cases h1 : en[i]? with
  | none => rw [h1] at q1; exact q1.elim
  | some o =>
    rw [h1] at q1
    cases o with
    | none => exact q1.elim
    | some d =>
      have q2 := Aft.now ok q1
      cases d with
      | lam L' ds =>
        simp only [] at q2
        by_cases hL : L' = L
        · subst hL
          rw [if_pos rfl] at q2
          obtain ⟨v, hs, rv⟩ := re.get h1
          simp only [Rep] at rv
          obtain ⟨rfl, hco, rd⟩ := rv
          refine wpAny_Call_Name_kw (thn ((pe_var (pos := p) hN hv hdb hcd).run pins s σ A.H (fun v H1 => v = .ref L'.a ∧ H1 = A.H) I ⟨.ref L'.a, hs, rfl, rfl⟩) fun u s1 ⟨v, H1, I1, r1, ev, eH⟩ => ?_)
          subst ev
          subst eH
          obtain rfl : u = Value.ref L'.a := r1
          have un : ∀ {s2 : Shared} {H2 : Hp}, Inv X pins σ H2 s2 → Un X.fs [] X.H_0 H2 X.s_0.heap s2.heap := fun {s2 H2} J => by
            have := J.base
            rw [hex] at this
            exact this
          have fnAt : ∀ {s2 : Shared} {H2 : Hp}, Inv X pins σ H2 s2 → PySem.W.FnAt L'.a s2.heap := fun {s2 H2} J => by
            obtain ⟨pm, ctv, ho⟩ := (hz.later (un J) hst).obj
            exact ⟨_, _, _, _, ho⟩
          refine PySem.W.callWith_F (first := []) (fnAt I1) (thn (ha.run pos pins s1 σ A.H (fun vs H2 => ∃ A2 as, A2.H = H2 ∧ Ok X.K X.mg T A2 ∧ Reps X.K X.mg A2 as vs ∧ Reps X.K X.mg A2 ds L'.ws ∧ A2.H L'.c = some (LamX.CodeO L'.c L'.q) ∧ Fin1 X.K X.mg T A2 (lamF ps.length fr.length fb ds as A2.S) Q) I1 ⟨A, en, rfl, ok, re, ?_⟩) fun us s2 ⟨vs, H2, I2, r, A2, as, e2, ok2, ra, rd2, hc2, q3⟩ => ⟨fnAt I2, ?_⟩) he hpl
          · refine (Aft.bind q2).mono fun as A2 ok2 x2 q3 vs ra => ⟨A2, as, rfl, ok2, ra, rd.ext ok x2, ?_, q3⟩
            exact x2.keep _ _ hco (ok.notup hco fun _ z => nomatch z) fun _ z => nomatch z
          · subst e2
            exact lam_run I2 (hz.later (un I2) hst) G hr r ok2 ra rd2 hc2 q3
        · rw [if_neg hL] at q2
          exact q2.elim
      | _ => exact q2.elim
end
/-! ### lambdas made -/
/-- tables: where, the name of the lambda that is made there -/
abbrev tabT (TL : List (Addr × Str)) : List NTab := TL.map fun p => (p.1, fun _ _ => p.2)
theorem tabs_to {TL : List (Addr × Str)} {H : Hp} (h : TabsN (tabT TL) H) : LamX.Tabs TL H := fun p hp => h (p.1, fun _ _ => p.2) (List.mem_map.mpr ⟨p, hp, rfl⟩)
theorem tabs_from {TL : List (Addr × Str)} {H : Hp} (h : LamX.Tabs TL H) : TabsN (tabT TL) H := fun p hp => by
  obtain ⟨q, hq, rfl⟩ := List.mem_map.mp hp
  exact h q hq
/-- the module's def d, handed a lambda of the text t as its last argument -/
structure HasL (T : List NTab) (P : Program) (w : World) (K : PySem.W.Frag) (mg : Str → Option Value) (base : Heap) (k : Nat) (d : He.DefD) (t : LT) (fr : List Str) (n : Nat) (FG : List D → List D → M D) : Prop where
  ex : ∃ (f : Addr), mg d.name = some (.ref f) ∧ PySem.W.keepIn K (.ref f) = true ∧
    ∀ (A : Around) (outer : List Env) (s : Shared) (A0 : AS) (cl : List (Str × Addr)) (L : LK) (us : List Value) (vs : List V) (ds as : List D) (Q : VK), RoomG k A → Env0 P w K mg base A outer s A0.H → LamHere t cl fr L (frs outer) s A0.H → Vals (vs ++ [.ref L.a]) us → Ok K mg T A0 → Reps K mg A0 as vs → Reps K mg A0 ds L.ws →
      A0.H L.c = some (LamX.CodeO L.c L.q) → as.length + 1 = n → Fin1 K mg T A0 (FG ds as A0.S) Q → codeAny (model P w) A (.call (.ref f) ⟨us, []⟩) (CR CX0 outer P w A0.H s Q fun _ _ _ => False) s
theorem HasL.mono {T : List NTab} {P : Program} {w : World} {K : PySem.W.Frag} {mg : Str → Option Value} {base : Heap} {d : He.DefD} {t : LT} {fr : List Str} {n j k : Nat} {FG : List D → List D → M D} (G : HasL T P w K mg base j d t fr n FG) (h : j ≤ k) : HasL T P w K mg base k d t fr n FG :=
  let ⟨f, a, b, c⟩ := G.ex; ⟨f, a, b, fun A outer s A0 cl L us vs ds as Q hr => c A outer s A0 cl L us vs ds as Q (hr.less h)⟩
theorem HasL.of {T : List NTab} {P : Program} {w : World} {K : PySem.W.Frag} {mg : Str → Option Value} {base : Heap} {d : He.DefD} {t : LT} {fr N ps : List Str} {k : Nat} {g : LK → SM} {FG : List D → List D → M D} {f : Addr} {fd : FuncData}
    (hm : mg d.name = some (.ref f)) (F : FunD K d.name d.qual d.params d.body d.scope [] [] f fd) (S : FnScope N ps d.scope) (hb : PosOk d ps)
    (hbody : ∀ (L : LK) (cl : List (Str × Addr)) (cdv : Value) (A : Around) (outer : List Env) (s : Shared) (H : Hp), LamHere t cl fr L (frs outer) s H → L.a ∉ frs (cxD P w K mg base N d.qual d.scope f cdv A outer s H).stack → RoomG k (A.deeper (envOfC d.qual d.scope s.heap.objs.size f cdv)) → SsV T (cxD P w K mg base N d.qual d.scope f cdv A outer s H) d.body (g L))
    (hg : ∀ (L : LK) (ds as : List D) (S : Sto) (r : D) (S' : Sto), as.length + 1 = ps.length → FG ds as S = .ok r S' → fnD N.length (g L) (as ++ [.lam L ds]) S = .ok r S') : HasL T P w K mg base (k + 1) d t fr ps.length FG := by
  refine ⟨f, hm, F.kp, fun A outer s A0 cl L us vs ds as Q hr e0 here r ok ra rd hc hn q => ?_⟩
  obtain ⟨oc, od, dV, kV, doc, pm, an, cdv, ct, osl, rfl, lk, hcd, hD, hK⟩ := F.ex
  have hl : (vs ++ [V.ref L.a]).length = ps.length := by rw [List.length_append, List.length_singleton, ← ra.length]; exact hn
  have hlu : us.length = ps.length := by rw [← r.length]; exact hl
  obtain ⟨pmL, ctvL, ho⟩ := here.obj
  have hbind : BindsTo s (PySem.W.fnOf d.name d.qual d.params d.body d.scope dV kV doc pm an cdv ct) ⟨us, []⟩ (ps.zip us) := by
    rcases hD with ⟨_, rfl⟩ | ⟨e, _⟩
    · exact .of_eq (hb kV doc pm an cdv ct us hlu)
    · exact absurd rfl e
  refine LamX.run_ofS (N := N) (ps := ps) lk hcd S hr.r e0 hbind r hl fun hr' => ⟨tS K mg T (g L), PSs.nox (hbody L cl cdv A outer s A0.H here ?_ ⟨hr', hr.g⟩), ?_⟩
  · intro z
    rcases List.mem_cons.mp (show L.a ∈ s.heap.objs.size :: frs outer from z) with e | e
    · have := Heap.lt_size ho
      rw [e] at this
      exact Nat.lt_irrefl _ this
    · exact here.nofr e
  · refine ⟨A0, (as ++ [D.lam L ds]).map some ++ List.replicate (N.length - (as ++ [D.lam L ds]).length) none, rfl, ok, ?_, ?_⟩
    · have rr : Reps K mg A0 (as ++ [D.lam L ds]) (vs ++ [V.ref L.a]) := ra.append (by simp only [Reps, Rep]; exact ⟨_, _, rfl, ⟨rfl, hc, rd⟩, rfl⟩)
      have h := rep_start (m := N.length - (as ++ [D.lam L ds]).length) rr
      unfold L2.start
      rw [← rr.length]
      exact h
    · have q2 : Fin1 K mg T A0 (fnD N.length (g L) (as ++ [D.lam L ds]) A0.S) Q := by
        cases eF : FG ds as A0.S with
        | ok r2 S2 =>
          rw [hg L ds as A0.S r2 S2 hn eF]
          rw [eF] at q
          exact q
        | bad => rw [eF] at q; exact q.elim
      unfold fnD at q2
      cases eg : g L ((as ++ [D.lam L ds]).map some ++ List.replicate (N.length - (as ++ [D.lam L ds]).length) none) A0.S with
      | nx en S' => rw [eg] at q2; exact fun A' σ' e ok' x' _ => q2 A' e ok' x' .non (by simp only [Rep])
      | rt d S' => rw [eg] at q2; exact fun A' v e ok' x' rv => q2 A' e ok' x' v rv
      | bk en S' => rw [eg] at q2; exact q2.elim
      | ct en S' => rw [eg] at q2; exact q2.elim
      | bad => rw [eg] at q2; exact q2.elim
def aVars : List Nat → DEnv → M (List D)
  | [] => aNil
  | j :: js => aCons (eVar j) (aVars js)
theorem vars_ok {K : PySem.W.Frag} {mg : Str → Option Value} {A : AS} {en : DEnv} {σ : L2.St} (re : REnv K mg A en σ) : ∀ (js : List Nat), aVars js en A.S = .bad ∨ ∃ ds ws, aVars js en A.S = .ok ds A.S ∧ js.map (slotAt σ) = ws.map some ∧ Reps K mg A ds ws
  | [] => .inr ⟨[], [], rfl, rfl, by simp only [Reps]⟩
  | j :: js => by
    have e0 : aVars (j :: js) en A.S = M.bind (eVar j en) (fun x => M.bind (aVars js en) fun xs => M.pure (x :: xs)) A.S := rfl
    rw [e0]
    unfold M.bind eVar
    cases h1 : en[j]? with
    | none => exact .inl rfl
    | some o =>
      cases o with
      | none => exact .inl rfl
      | some d =>
        obtain ⟨v, hs, rv⟩ := re.get h1
        rcases vars_ok re js with h | ⟨ds, ws, h2, h3, h4⟩
        · simp only [h]; exact .inl trivial
        · refine .inr ⟨d :: ds, v :: ws, by simp only [h2], ?_, by simp only [Reps]; exact ⟨v, ws, rfl, rv, h4⟩⟩
          rw [List.map_cons, h3, slotAt_of hs]
          rfl
/-- g(a, lambda): the lambda captures the slots js -/
def eLamCall (js : List Nat) (FG : List D → List D → M D) (f1 : DEnv → M D) : DEnv → M D := fun en => M.bind (f1 en) fun d => M.bind (aVars js en) fun ds => FG ds [d]
section
variable {X : Cx} {x : Str} {pos p lpos : Pos} {e1 : Expr} {f1 : DEnv → M D} {k : Nat} {t : LT} {fr : List Str} {d : He.DefD} {FG : List D → List D → M D} {TL : List (Addr × Str)} {js : List Nat} {c P : Addr}
theorem aft_later {α : Type} {K : PySem.W.Frag} {mg : Str → Option Value} {T : List NTab} {A A2 : AS} {r : Res α} {Q : α → AS → Prop} (h : Aft K mg T A r Q) (x : Ext A A2) : Aft K mg T A2 r Q := by
  cases r with
  | ok a S => exact fun A' e ok' x' => h A' e ok' (x.trans x')
  | bad => exact h
theorem made_ok {K : PySem.W.Frag} {mg : Str → Option Value} {A : AS} {H2 : Hp} (ok : Ok K mg (tabT TL) A) (eN : LamX.ExtN A.H H2) (T2 : LamX.Tabs TL H2) : Ok K mg (tabT TL) { A with H := H2 } ∧ Ext A { A with H := H2 } := by
  have ex : Ext A { A with H := H2 } := ⟨fun _ _ h => h, fun _ h => h, fun _ _ h => h, fun a o h _ n => eN a o h n, fun _ _ h => h, fun a ⟨o, h, n⟩ => ⟨o, eN a o h n, n⟩⟩
  refine ⟨⟨ok.len, fun i a c h1 h2 => ?_, ok.inj, fun a ha => ?_, tabs_from T2⟩, ex⟩
  · obtain ⟨vs, e, r⟩ := ok.cell i a c h1 h2
    exact ⟨vs, eN _ _ e (fun _ z => nomatch z), Reps.ext ok ex _ _ r⟩
  · obtain ⟨⟨vs, e⟩, h⟩ := ok.hid a ha
    exact ⟨⟨vs, eN _ _ e (fun _ z => nomatch z)⟩, h⟩
theorem ev_lamcall (G : HasL (tabT TL) X.prog X.w X.K X.mg X.base k d t fr 2 FG) (hr : RoomG k X.A) (hg : Gl X x) (hx : d.name = x) (TB : LamX.TabB X.base X.mg c P) (hcode : X.env.code = .ref c) (hm : (P, X.env.qual ++ "<lambda>") ∈ TL) (hu : ∀ p ∈ TL, p.1 = P → p.2 = X.env.qual ++ "<lambda>")
    (hdef : defaultsOf t.params X.env = ([], [])) (hfree : ∀ y ∈ t.scope.names, y.2 = .free → X.env.scope.names.lookup y.1 = some .cell ∨ X.env.scope.names.lookup y.1 = some .free) (hfr : ∀ y ∈ fr, (y, NameKind.free) ∈ t.scope.names) (hjs : js.map (fun j => X.N[j]?) = fr.map some)
    (h1 : EV (tabT TL) X e1 f1) (hdb : (x == ("__debug__" : Str)) = false := by decide) (he : ∀ es, starEach (e1 :: es) X.env = (false, eval e1 X.env) :: starEach es X.env := by intro es; rfl) :
    EV (tabT TL) X (.Call (.Name x p) [e1, .Lambda t.params t.body t.scope lpos] [] pos) (eLamCall js FG f1) := by
  refine ⟨fun pins s σ H Q I h => ?_⟩
  obtain ⟨A, en, rfl, ok, re, q⟩ := h
  obtain ⟨f, hm2, hk, run⟩ := G.ex
  subst hx
  have hfr2 : ∀ y ∈ t.scope.names, y.2 = .free → ∃ c, X.env.cells.lookup y.1 = some c := fun y hy e => (hfree y hy e).elim (fun z => I.ok.has _ (.inl z)) fun z => I.ok.has _ (.inr z)
  refine wpAny_Call_Name_kw (ld_glob I hg hm2 ?_ hdb)
  have hlst : starEach [e1, .Lambda t.params t.body t.scope lpos] X.env = (false, eval e1 X.env) :: (false, eval (.Lambda t.params t.body t.scope lpos) X.env) :: starEach [] X.env := he _
  refine PySem.W.callWith_K (h₀ := X.base) I.ok.mod.kin hk ?_ hlst (by rfl)
  rw [hlst]
  show wpAny _ _ (spliced ((false, eval e1 X.env) :: (false, eval (.Lambda t.params t.body t.scope lpos) X.env) :: backTo pos (starEach [] X.env))) _ _ s
  refine Calls.spliced_cons (thn (h1.run pins s σ A.H (fun v H1 => ∃ A1 d1, A1.H = H1 ∧ Ok X.K X.mg (tabT TL) A1 ∧ REnv X.K X.mg A1 en σ ∧ Rep X.K X.mg A1 d1 v ∧ Fin1 X.K X.mg (tabT TL) A1 (M.bind (aVars js en) (fun ds => FG ds [d1]) A1.S) Q) I ⟨A, en, rfl, ok, re, ?_⟩) fun u1 s1 ⟨v1, H1, I1, r1, A1, d1, e2, ok1, re1, rd1, q1⟩ => ?_)
  · exact (Aft.bind q).mono fun d1 A1 ok1 x1 q1 v rv => ⟨A1, d1, rfl, ok1, re.ext ok x1, rv, q1⟩
  · subst e2
    rcases vars_ok re1 js with hv | ⟨ds, ws, hv, hws, rds⟩
    · unfold M.bind at q1
      rw [hv] at q1
      exact q1.elim
    · have q2 : Fin1 X.K X.mg (tabT TL) A1 (FG ds [d1] A1.S) Q := by
        unfold M.bind at q1
        rw [hv] at q1
        exact q1
      refine Calls.spliced_cons (LamX.lam_make2 I1 TB hcode hm hu (tabs_to ok1.tab) hdef hfr2 fun fa c' pm' ctv H2 s2 I2 eN T2 hobj hfn hnf hco => ?_)
      refine Calls.spliced_nil ⟨I2.kIn, ?_⟩
      obtain ⟨ok2, x2⟩ := made_ok ok1 eN T2
      have cells := cells_of I2 (Caps.made I2.ok hfree hfr hjs)
      rw [hws] at cells
      have here : LamHere t (cloFrom X.env.cells t.scope.names []) fr ⟨fa, c', X.env.qual ++ "<lambda>", ws⟩ (frs X.stack) s2 H2 := ⟨⟨pm', ctv, hobj⟩, hfn, hnf, cells⟩
      have rr : Reps X.K X.mg { A1 with H := H2 } [d1] [v1] := by
        simp only [Reps]
        exact ⟨v1, [], rfl, rd1.ext ok1 x2 _ _, rfl⟩
      have rc := run X.A X.stack s2 { A1 with H := H2 } _ ⟨fa, c', X.env.qual ++ "<lambda>", ws⟩ [u1, .ref fa] [v1] ds [d1] Q hr I2.env0 here (.cons r1 (.cons rfl .nil)) ok2 rr (rds.ext ok1 x2 _ _) hco rfl (aft_later q2 x2)
      exact call_ret I2 rc
end
/-! ### a def whose code object is known -/
theorem Has.ofC {T : List NTab} {P : Program} {w : World} {K : PySem.W.Frag} {mg : Str → Option Value} {base : Heap} {d : He.DefD} {N ps : List Str} {k : Nat} {g : SM} {p : Str × Option Str} {fd : FuncData}
    (hm : mg d.name = some (.ref (He.fAd K p))) (F : FunD K d.name d.qual d.params d.body d.scope [] [] (He.fAd K p) fd) (S : FnScope N ps d.scope)
    (hbody : ∀ (A : Around) (outer : List Env) (s : Shared) (H : Hp), RoomG k (A.deeper (envOfC d.qual d.scope s.heap.objs.size (He.fAd K p) (.ref (He.codeOf K p)))) → SsV T (cxD P w K mg base N d.qual d.scope (He.fAd K p) (.ref (He.codeOf K p)) A outer s H) d.body g) :
    Has T P w K mg base (k + 1) d ps (fnD N.length g) := by
  obtain ⟨oc, od, dV, kV, doc, pm, an, cdv, ct, osl, rfl, lk, hcd, _, _⟩ := id F.ex
  obtain ⟨c, rfl⟩ := He.codeIn_ref hcd
  have ec : He.codeOf K p = c := He.codeOf_eq lk rfl
  rw [ec] at hbody
  exact ⟨_, _, hm, F, fn_ok lk hcd S hbody⟩
/-! ### wrong_at, handed a lambda -/
def wrongGo (Φ : List D → M D) (d : D) : List D → Nat → M D
  | [], _ => M.pure (.lst [])
  | y :: ys, i => M.bind (mSl d none (some (i : Int))) fun b => M.bind (Φ [y, b]) fun r => M.bind (mBool r) fun k => if k = true then wrongGo Φ d ys (i + 1) else M.pure (.lst [.int i])
def wrongF (Φ : List D → List D → M D) : List D → List D → M D := fun ds as => match as with
  | [d] => M.bind (mIsi [d, .ty "tuple"]) fun r => M.bind (mBool r) fun b => if b = true then (match d with
    | .tup xs => wrongGo (Φ ds) (.tup xs) xs 0
    | _ => M.bad) else M.pure (.lst [.non])
  | _ => M.bad
noncomputable def sWrongL (Φ : List D → List D → M D) (L : LK) : SM := sSeq (sIf (tNotM (tst (eCall mIsi (aCons (eVar 0) (aCons (eC (.ty "tuple")) (aNil)))))) (sRet (eCall mLst (aCons (eC .non) (aNil)))) (sNil)) (sSeq (sFor (iEnumD (aCons (eVar 0) (aNil))) (gT 2 (gsCons (gN 2) (gsCons (gN 3) (gsNil)))) (sIf (tNotM (tst (eCallL L 1 Φ (aCons (eVar 3) (aCons (eSl (eVar 0) (oNone) (oSome (eVar 2))) (aNil)))))) (sRet (eCall mLst (aCons (eVar 2) (aNil)))) (sNil))) (sRet (eCall mLst (aNil))))
/-- the name of the lambda in the def n -/
def lamQ (n : Str) : Str := n ++ ".<locals>." ++ "<lambda>"
/-- the lambda that is the last argument of a call -/
def lamArg : Expr → LT
  | .Call _ args _ _ => match args.getLast? with
    | some (.Lambda p b s _) => ⟨p, b, s⟩
    | _ => ⟨default, .Constant .none 0 ⟨0, 0, 0, 0⟩, default⟩
  | _ => ⟨default, .Constant .none 0 ⟨0, 0, 0, 0⟩, default⟩
def retE : List Stmt → Expr
  | .Return (some e) _ :: _ => e
  | _ => .Constant .none 0 ⟨0, 0, 0, 0⟩
def forE : List Stmt → Expr
  | .For _ e _ _ _ :: _ => e
  | _ => .Constant .none 0 ⟨0, 0, 0, 0⟩
end VL
/-! VLr: repr. -/
namespace VL
open PySem PySem.Spec PyProof.Rows L2
def mRepr : List D → M D := arg1 fun d S => match pyOf S d with
  | some p => if p.showable = true ∧ p.hasDict = false ∧ p.depth ≤ 60 ∧ p.shown.length ≤ LINE then .ok (.str p.shown) S else .bad
  | none => .bad
section
variable {X : Cx} {T : List NdefX.NTab} {k : Nat}
theorem cr_reprM (hr : RoomG k X.A) : CallR X (.builtin "repr") (rL X.K X.mg T mRepr) := by
  intro pins s σ H vs us Q I r h
  obtain ⟨A, ds, rfl, ok, rs, q⟩ := h
  obtain ⟨d, v, rfl, r1, q⟩ := arg1_ok rs q
  cases e1 : pyOf A.S d with
  | none => simp only [e1] at q; exact q.elim
  | some p =>
    simp only [e1] at q
    obtain ⟨⟨c1, c2, c3, c4⟩, q⟩ := fin_if q
    obtain ⟨u, rfl, ru⟩ := Vals.one r
    obtain ⟨d1, f1⟩ := pyOf_dp ok e1 r1
    obtain ⟨as, h1⟩ := Dp.reads I p v u d1 ru
    have hu := hr.units
    have fin : ∀ (h' : Heap) (t tk : Tok), (∀ b o, s.heap.get? b = some o → h'.get? b = some o) → EP X pins σ Q (.str p.shown t) { s with heap := h', toks := tk } := fun h' t tk hk =>
      ⟨.str p.shown, A.H, I.kept hk, ⟨t, rfl⟩, Aft.val ok q (by simp only [Rep])⟩
    have refs : ∀ a, u = .ref a → wpAny (model X.prog X.w) X.A (call (.builtin "repr") [u]) (EP X pins σ Q) X.xe s := fun a e => by
      subst e
      exact repr_of_reads' h1 c1 (PyData.noDict_hsm c2) hr.g (by omega) (fun b o e => e) (fun h' t tk hk => fin h' t tk hk) (by rw [line_eq]; exact c4)
    cases p with
    | none => cases h1; exact P.repr_of_none (fin s.heap _ _ fun b o e => e)
    | bool b => cases h1; exact P.repr_of_bool (fin s.heap _ _ fun b o e => e)
    | int i => cases h1; exact P.repr_of_int (of_decide_eq_true c1) (fin s.heap _ _ fun b o e => e)
    | str x => cases h1; exact P.repr_of_str (fin s.heap _ _ fun b o e => e) (by rw [line_eq]; exact c4)
    | list xs => cases h1; exact refs _ rfl
    | tuple xs => cases h1; exact refs _ rfl
    | dict kvs => simp [PyData.hasDict] at c2
end
/-! ### list(range(n)), [..] * n, keywords in another order -/
def mListRg (d : D) : M D := fun S => match d with
  | .int j => if -(2 ^ 62) ≤ j ∧ j < 2 ^ 62 ∧ j.toNat ≤ 2 ^ 24 then .ok (.lst (nums 0 j.toNat)) S else .bad
  | _ => .bad
def mRepL (d e : D) : M D := fun S => match d, e with
  | .lst xs, .int k => if -(2 ^ 63) ≤ k ∧ k < 2 ^ 63 ∧ xs.length * k.toNat ≤ LINE then .ok (.lst (List.replicate k.toNat xs).flatten) S else .bad
  | _, _ => .bad
def gP (pm : List Nat) {α : Type} (us ws : List α) : List α := if us.length = 0 ∧ ws.length = pm.length then pm.filterMap (fun i => ws[i]?) else []
def eCallP (pm : List Nat) (F : List D → M D) (fk : DEnv → M (List D)) : DEnv → M D := fun en => M.bind (fk en) fun ks => F (gP pm [] ks)
section
variable {X : Cx} {T : List NdefX.NTab} {k : Nat} {a : Expr} {f : DEnv → M D} {p p2 pos pos2 : Pos}
theorem reps_nums {K : PySem.W.Frag} {mg : Str → Option Value} {A : AS} (j : Int) : Reps K mg A (nums 0 j.toNat) (rgV 0 j) := by
  unfold nums rgV
  rw [show (j - 0).toNat = j.toNat by omega]
  generalize List.range j.toNat = L
  induction L with
  | nil => simp only [List.map_nil, Reps]
  | cons b L ih =>
    simp only [List.map_cons, Reps]
    exact ⟨_, _, rfl, by simp only [Rep], ih⟩
theorem ev_listRg (hc : X.calm = true) (hg1 : Gl X "list") (hm1 : X.mg "list" = none) (hg2 : Gl X "range") (hm2 : X.mg "range" = none) (ha : EV T X a f) (na : starEach [a] X.env = (false, eval a X.env) :: starEach [] X.env := by rfl) (nb : starEach [Expr.Call (.Name "range" p2) [a] [] pos2] X.env = (false, eval (Expr.Call (.Name "range" p2) [a] [] pos2) X.env) :: starEach [] X.env := by rfl) :
    EV T X (.Call (.Name "list" p) [.Call (.Name "range" p2) [a] [] pos2] [] pos) (e1 mListRg f) := by
  refine pe_imp (pe_listRg hc hg1 hm1 (prg_1 hg2 hm2 ha na) nb) ?_
  rintro σ H Q ⟨A, en, rfl, ok, re, q⟩
  refine ⟨A, en, rfl, ok, re, (Aft.bind q).mono fun d A1 ok1 x1 q1 v rv => ?_⟩
  cases d with
  | int j =>
    simp only [Rep] at rv
    obtain ⟨⟨c1, c2, c3⟩, q2⟩ := fin_if q1
    exact ⟨j, rv, ⟨by omega, by omega, c1, c2, by omega⟩, fun p hp => Aft.lst ok1 q2 (reps_nums j) hp⟩
  | _ => exact q1.elim
theorem reps_rep {K : PySem.W.Frag} {mg : Str → Option Value} {A : AS} {ds : List D} {vs : List V} (r : Reps K mg A ds vs) : ∀ n : Nat, Reps K mg A (List.replicate n ds).flatten (List.replicate n vs).flatten
  | 0 => by simp only [List.replicate_zero, List.flatten_nil, Reps]
  | n + 1 => by
    simp only [List.replicate_succ, List.flatten_cons]
    exact r.append (reps_rep r n)
theorem op_mRepL : OpR X (binaryOp .Mult) (r2 X.K X.mg T mRepL) := opr_imp op_rep fun x y H Q h => by
  obtain ⟨A, d, e, rfl, ok, r1, r2, q⟩ := h
  unfold mRepL at q
  split at q
  · simp only [Rep] at r1 r2
    obtain ⟨l, xs, rfl, h1, _, _, rs⟩ := r1
    obtain ⟨⟨c1, c2, c3⟩, q⟩ := fin_if q
    refine ⟨l, _, xs, rfl, r2, h1, c1, c2, by rw [line_eq, ← rs.length]; exact c3, fun p hp => Aft.lst ok q (reps_rep rs _) hp⟩
  · exact q.elim
end
theorem pick_vals {zs : List V} {ws : List Value} (h2 : Vals zs ws) : ∀ pm : List Nat, Vals (pm.filterMap fun i => zs[i]?) (pm.filterMap fun i => ws[i]?)
  | [] => .nil
  | i :: pm => by
    rw [List.filterMap_cons, List.filterMap_cons]
    by_cases hi : i < zs.length
    · obtain ⟨u, hu, r⟩ := h2.get (List.getElem?_eq_getElem hi)
      rw [List.getElem?_eq_getElem hi, hu]
      exact .cons r (pick_vals h2 pm)
    · rw [List.getElem?_eq_none (by omega), List.getElem?_eq_none (by rw [← h2.length]; omega)]
      exact pick_vals h2 pm
theorem gP_vals {pm : List Nat} {vs : List V} {us : List Value} {zs : List V} {ws : List Value} (h1 : Vals vs us) (h2 : Vals zs ws) : Vals (gP pm vs zs) (gP pm us ws) := by
  unfold gP
  rw [h1.length, h2.length]
  split
  · exact pick_vals h2 pm
  · exact .nil
theorem pick_reps {K : PySem.W.Frag} {mg : Str → Option Value} {A : AS} {ks : List D} {ws : List V} (r2 : Reps K mg A ks ws) : ∀ pm : List Nat, Reps K mg A (pm.filterMap fun i => ks[i]?) (pm.filterMap fun i => ws[i]?)
  | [] => by simp only [List.filterMap_nil, Reps]
  | i :: pm => by
    rw [List.filterMap_cons, List.filterMap_cons]
    by_cases hi : i < ks.length
    · obtain ⟨v, hv, r⟩ := r2.get (List.getElem?_eq_getElem hi)
      rw [List.getElem?_eq_getElem hi, hv]
      simp only [Reps]
      exact ⟨v, _, rfl, r, pick_reps r2 pm⟩
    · rw [List.getElem?_eq_none (by omega), List.getElem?_eq_none (by rw [← r2.length]; omega)]
      exact pick_reps r2 pm
theorem gP_reps {K : PySem.W.Frag} {mg : Str → Option Value} {A : AS} {pm : List Nat} {ks : List D} {ws : List V} (r2 : Reps K mg A ks ws) : Reps K mg A (gP pm [] ks) (gP pm [] ws) := by
  have e : ws.length = ks.length := r2.length.symm
  by_cases c : ks.length = pm.length
  · have e1 : gP pm [] ks = pm.filterMap fun i => ks[i]? := if_pos ⟨rfl, c⟩
    have e2 : gP pm [] ws = pm.filterMap fun i => ws[i]? := if_pos ⟨rfl, e.trans c⟩
    rw [e1, e2]
    exact pick_reps r2 pm
  · have e1 : gP pm [] ks = [] := if_neg fun z => c z.2
    have e2 : gP pm [] ws = [] := if_neg fun z => c (e.symm.trans z.2)
    rw [e1, e2]
    simp only [Reps]
section
variable {T : List NdefX.NTab} {X : Cx} {x : Str} {pos p : Pos} {fk : DEnv → M (List D)} {k : Nat} {d : He.DefD} {ps ks : List Str} {pm : List Nat} {F : List D → M D} {kws : List Keyword}
/-- all by keywords, in the order pm -/
theorem ev_fkP (G : Has T X.prog X.w X.K X.mg X.base k d ps F) (hr : RoomG k X.A) (hg : Gl X x) (hx : d.name = x) (h0 : ps.length ≠ 0) (hpm : pm.length = ks.length) (hb : KwOk d ps 0 ks fun us ws => gP pm us ws) (hkw : KV T X kws fk)
    (hall : (backToKw pos (keywordEach kws X.env)).all (·.1.isSome) = true := by rfl) (hks : (backToKw pos (keywordEach kws X.env)).filterMap (·.1) = ks := by rfl)
    (hdb : (x == ("__debug__" : Str)) = false := by decide)
    (hpl : ((backTo pos (starEach [] X.env)).any (·.1) || (backToKw pos (keywordEach kws X.env)).any (·.1.isNone)) = false := by rfl) :
    EV T X (.Call (.Name x p) [] kws pos) (eCallP pm (mArgs ps.length F) fk) := by
  obtain ⟨f, fd, hm, FD, FO⟩ := G.ex
  subst hx
  have KB : KBinds X.K fd ps ks (gP pm) (gP pm) := by
    refine kbinds_of FD (n := 0) (g := fun {α} us ws => gP pm us ws) hb (fun us ws h => ?_) fun h1 h2 => gP_vals h1 h2
    unfold gP at h
    split at h
    · rename_i c
      exact ⟨c.1, by rw [c.2, hpm]⟩
    · exact absurd h.symm h0
  refine ⟨fun pins s σ H Q I h => ?_⟩
  obtain ⟨A, en, rfl, ok, re, q⟩ := h
  refine wpAny_Call_Name_kw (ld_glob I hg hm (PySem.W.callWith_KW0 (h₀ := X.base) I.ok.mod.kin FD.kp hall (thn (hkw.run pos pins s σ A.H (fun zs H1 => ∃ A1 ds, A1.H = H1 ∧ Ok X.K X.mg T A1 ∧ Reps X.K X.mg A1 ds zs ∧ Fin1 X.K X.mg T A1 (mArgs ps.length F (gP pm [] ds) A1.S) Q) I ⟨A, en, rfl, ok, re, ?_⟩) fun ws s2 ⟨zs, H2, I2, rz, A1, ds, e1, ok1, r1, q1⟩ => ⟨I2.kIn, ?_⟩) hpl) hdb)
  · have q2 : Aft X.K X.mg T A (M.bind (fk en) (fun ds => mArgs ps.length F (gP pm [] ds)) A.S) fun d A' => ∀ v, Rep X.K X.mg A' d v → Q v A'.H := q
    exact (Aft.bind q2).mono fun ds A1 ok1 x1 q3 zs rs => ⟨A1, ds, rfl, ok1, rs, q3⟩
  · subst e1
    rw [hks]
    refine call_ret I2 ?_
    have hrel : Vals (gP pm [] zs) (gP pm [] ws) := KB.rel .nil rz
    have q3 : rL X.K X.mg T (mArgs ps.length F) (gP pm [] zs) A1.H Q := ⟨A1, _, rfl, ok1, gP_reps r1, q1⟩
    have hl : (gP pm [] ws).length = ps.length := by rw [← hrel.length]; exact rL_len q3
    exact FO.run X.A X.stack s2 A1.H _ _ _ Q hr I2.env0 (KB.to s2 [] ws I2.kIn hl) hrel q3
end
end VL
/-! Sh: meanings that several laws have in common. -/
namespace Sh
open PySem PySem.Spec PyProof.Rows L2 VL
abbrev mAppend (d : D) : List D → M D := arg1 fun x S => match d with
    | .cel n => match (S[n]?).join with
      | some xs => if xs.length < LINE then .ok .non (S.set n (some (xs ++ [x]))) else .bad
      | none => .bad
    | _ => .bad
def c_WORDS : List Str := ["ahead", "all", "as", "ask", "at", "behind", "book", "by", "code", "cost", "end", "first", "fixed", "front", "in", "is", "last", "leave", "never", "next", "none", "of", "order", "place", "put", "shelf", "step", "take", "times", "to", "undo", "with"]
def s_x_law_well : SM := sSeq (sAsg (e2 mAdd (eC (.int 130577)) (e2 mMul (eC (.int 7013)) (eVar 1))) (gN 2)) (sSeq (sFor (iSeq (eSl (eVar 0) (oNone) (oSome (eC (.int 12))))) (gN 3) (sAsg (e2 mMod (eCall mInt (aCons (e2 mAdd (e2 mAdd (e2 mMul (eVar 2) (eC (.int 45281))) (e2 mMod (eCall mInt (aCons (eVar 3) (aNil))) (eC (.int 2147483549)))) (eC (.int 19))) (aNil))) (eC (.int 2147483563))) (gN 2))) (sSeq (sAsg (eIf (tst (e2 mLt (eVar 1) (eCall mLen (aCons (eVar 0) (aNil))))) (eCall mInt (aCons (e2 mIx (eVar 0) (eVar 1)) (aNil))) (eC (.int 0))) (gN 4)) (sSeq (sAsg (e2 mMod (eCall mInt (aCons (e2 mAdd (e2 mAdd (e2 mMul (eVar 2) (eC (.int 41))) (e2 mMul (e2 mMod (eCall mInt (aCons (eVar 4) (aNil))) (eC (.int 2147483549))) (eC (.int 15031)))) (eC (.int 5))) (aNil))) (eC (.int 2147483563))) (gN 2)) (sRet (eCall mCel (aCons (eIf (tOrM (tst (e2 mLt (eVar 4) (eC (.int 0)))) (tst (e2 mGe (eVar 4) (e2 mPow (eC (.int 10)) (eC (.int 15)))))) (eCall mAbs (aCons (eVar 4) (aNil))) (eC (.int 0))) (aCons (eVar 2) (aCons (eC (.int 0)) (aNil)))))))))
def f_x_law_well : List D → M D := fnD 5 s_x_law_well
def s_x_law_draw : SM := sSeq (sIf (tst (e2 mGt (e2 mIx (eVar 0) (eC (.int 0))) (eC (.int 0)))) (sSeq (sAsg (eCall mDivmod (aCons (e2 mIx (eVar 0) (eC (.int 0))) (aCons (eVar 1) (aNil)))) (gT 2 (gsCons (gIx (eVar 0) (eC (.int 0))) (gsCons (gN 3) (gsNil))))) (sRet (eVar 3))) (sNil)) (sSeq (sAsg (e2 mAdd (e2 mIx (eVar 0) (eC (.int 2))) (eC (.int 1))) (gIx (eVar 0) (eC (.int 2)))) (sSeq (sAsg (e2 mMod (eCall mInt (aCons (e2 mAdd (e2 mAdd (e2 mMul (e2 mIx (eVar 0) (eC (.int 1))) (eC (.int 40037))) (e2 mMul (eC (.int 13001)) (e2 mIx (eVar 0) (eC (.int 2))))) (eC (.int 7))) (aNil))) (eC (.int 2147483563))) (gN 2)) (sSeq (sAsg (e2 mMod (eCall mInt (aCons (e2 mAdd (e2 mMul (eVar 2) (e2 mAdd (e2 mMod (eCall mInt (aCons (eVar 2) (aNil))) (eC (.int 5009))) (eC (.int 20023)))) (e2 mIx (eVar 0) (eC (.int 2)))) (aNil))) (eC (.int 2147483563))) (gIx (eVar 0) (eC (.int 1)))) (sRet (e2 mMod (eCall mInt (aCons (e2 mFdiv (e2 mIx (eVar 0) (eC (.int 1))) (eC (.int 1013))) (aNil))) (eVar 1))))))
def f_x_law_draw : List D → M D := fnD 4 s_x_law_draw
def s_x_law_of : SM := sRet (e2 mIx (eVar 1) (eCall (mArgs 2 f_x_law_draw) (aCons (eVar 0) (aCons (eCall mLen (aCons (eVar 1) (aNil))) (aNil)))))
def f_x_law_of : List D → M D := fnD 2 s_x_law_of
def s_x_law_names : SM := sSeq (sPar 4 5 (aCons (eCall mCel (aNil)) (aCons (eC (.str "abcdefghijklmnopqrstuvwxyz")) (aNil)))) (sSeq (sAsg (eC (.str "ahead all as ask at behind book by code cost end first fixed front in is last leave never next none of")) (gN 2)) (sSeq (sAsg (e2 mAdd (eMethL gStr mSplit (eVar 2) (aCons (eC (.str " ")) (aNil))) (eMethL gStr mSplit (eC (.str "order place put shelf step take times to undo with")) (aCons (eC (.str " ")) (aNil)))) (gN 2)) (sSeq (sFor (iRange1 (aCons (eVar 1) (aNil))) (gN 3) (sSeq (sAsg (eC (.str "")) (gN 6)) (sSeq (sFor (iRange1 (aCons (eCall (mArgs 2 f_x_law_of) (aCons (eVar 0) (aCons (eCall mTup (aCons (eC (.int 0)) (aCons (eC (.int 1)) (aCons (eC (.int 2)) (aCons (eC (.int 3)) (aCons (eC (.int 7)) (aNil))))))) (aNil)))) (aNil))) (gN 7) (sAsg (e2 mAdd (eVar 6) (eCall (mArgs 2 f_x_law_of) (aCons (eVar 0) (aCons (eVar 5) (aNil))))) (gN 6))) (sSeq (sAsg (e2 mAdd (eVar 6) (e2 mIx (eVar 5) (eVar 3))) (gN 6)) (sDrop (eMethL gLst mAppend (eVar 4) (aCons (eIf (tst (e2 (mIn false) (eVar 6) (eVar 2))) (e2 mAdd (eC (.str "q")) (e2 mIx (eVar 5) (eVar 3))) (eVar 6)) (aNil)))))))) (sSeq (sFz 4) (sRet (eCall mTuple (aCons (eVar 4) (aNil))))))))
def f_x_law_names : List D → M D := fnD 8 s_x_law_names
def s_x_law_shuffled : SM := sSeq (sPar 3 4 (aCons (eCall mList (aCons (eVar 1) (aNil))) (aCons (eCall mTup (aNil)) (aNil)))) (sSeq (sFor (iRange1 (aCons (eCall mLen (aCons (eVar 1) (aNil))) (aNil))) (gN 2) (sSeq (sAsg (eCall (mArgs 2 f_x_law_of) (aCons (eVar 0) (aCons (eVar 3) (aNil)))) (gN 5)) (sPar 4 3 (aCons (e2 mAdd (eVar 4) (eCall mTup (aCons (eVar 5) (aNil)))) (aCons (eComp [6] (iSeq (eVar 3)) (gN 6) (tst (e2 mNe (eVar 6) (eVar 5))) (eVar 6)) (aNil)))))) (sRet (eVar 4)))
def f_x_law_shuffled : List D → M D := fnD 7 s_x_law_shuffled
def s_x_law_shelf : SM := sSeq (sAsg (eCall (mArgs 2 f_x_law_names) (aCons (eVar 0) (aCons (e2 mAdd (eVar 1) (eCall (mArgs 2 f_x_law_draw) (aCons (eVar 0) (aCons (e2 mAdd (e2 mSub (eVar 2) (eVar 1)) (eC (.int 1))) (aNil))))) (aNil)))) (gN 3)) (sRet (eCall (mArgs 2 f_x_law_shuffled) (aCons (eVar 0) (aCons (eVar 3) (aNil)))))
def f_x_law_shelf : List D → M D := fnD 4 s_x_law_shelf
def s_x_law_same (f : List D → M D) : SM := sSeq (sIf (tAndM (tst (eCall mIsi (aCons (eVar 0) (aCons (eC (.ty "tuple")) (aNil))))) (tst (eCall mIsi (aCons (eVar 1) (aCons (eC (.ty "tuple")) (aNil)))))) (sRet (eAndV (e2 mEq (eCall mLen (aCons (eVar 0) (aNil))) (eCall mLen (aCons (eVar 1) (aNil)))) (eCall mAll (aCons (eComp [2] (iRange1 (aCons (eCall mLen (aCons (eVar 0) (aNil))) (aNil))) (gN 2) (tYesM) (eCall (mArgs 2 f) (aCons (e2 mIx (eVar 0) (eVar 2)) (aCons (e2 mIx (eVar 1) (eVar 2)) (aNil))))) (aNil))))) (sNil)) (sSeq (sIf (tOrM (tst (e2 mNe (eCall mIsi (aCons (eVar 0) (aCons (eC (.ty "bool")) (aNil)))) (eCall mIsi (aCons (eVar 1) (aCons (eC (.ty "bool")) (aNil)))))) (tst (e2 mNe (eCall mIsi (aCons (eVar 0) (aCons (eC (.ty "int")) (aNil)))) (eCall mIsi (aCons (eVar 1) (aCons (eC (.ty "int")) (aNil))))))) (sRet (eC (.bl false))) (sNil)) (sRet (eAndV (e2 mEq (eCall mIsi (aCons (eVar 0) (aCons (eC (.ty "tuple")) (aNil)))) (eCall mIsi (aCons (eVar 1) (aCons (eC (.ty "tuple")) (aNil))))) (e2 mEq (eVar 0) (eVar 1)))))
def f_x_law_same_n : Nat → List D → M D
  | 0 => fun _ _ => .bad
  | n + 1 => fnD 3 (s_x_law_same (f_x_law_same_n n))
def f_x_law_same : List D → M D := f_x_law_same_n 6
def s_x_law_asked : SM := sRet (e2 mAdd (eCall mTup (aCons (eVar 1) (aNil))) (eCall mTuple (aCons (eComp [2] (iSeq (eVar 0)) (gN 2) (tst (e2 mNe (eVar 2) (eVar 1))) (eVar 2)) (aNil))))
def f_x_law_asked : List D → M D := fnD 3 s_x_law_asked
def s_x_law_led : SM := sSeq (sFor (iSeq (eVar 1)) (gN 2) (sAsg (eCall (mArgs 2 f_x_law_asked) (aCons (eVar 0) (aCons (eVar 2) (aNil)))) (gN 0))) (sRet (eVar 0))
def f_x_law_led : List D → M D := fnD 3 s_x_law_led
def s_x_law_askings : SM := sRet (eCall mTuple (aCons (eComp [3] (iRange1 (aCons (eCall (mArgs 2 f_x_law_draw) (aCons (eVar 0) (aCons (e2 mAdd (eVar 2) (eC (.int 1))) (aNil)))) (aNil))) (gN 3) (tYesM) (eCall (mArgs 2 f_x_law_of) (aCons (eVar 0) (aCons (eVar 1) (aNil))))) (aNil)))
def f_x_law_askings : List D → M D := fnD 4 s_x_law_askings
def s_x_law_fewest : SM := sSeq (sFor (iRange1 (aCons (eCall mLen (aCons (eVar 1) (aNil))) (aNil))) (gN 2) (sSeq (sAsg (eSl (eVar 1) (oSome (eVar 2)) (oNone)) (gN 3)) (sIf (tst (e2 mEq (eComp [4] (iSeq (eVar 0)) (gN 4) (tst (e2 (mIn false) (eVar 4) (eVar 3))) (eVar 4)) (eCall mList (aCons (eVar 3) (aNil))))) (sRet (e1 mRev (eSl (eVar 1) (oNone) (oSome (eVar 2))))) (sNil)))) (sRet (eCall mTup (aNil)))
def f_x_law_fewest : List D → M D := fnD 5 s_x_law_fewest
def s_is_word : SM := sRet (eAndV (eCall mIsi (aCons (eVar 0) (aCons (eC (.ty "str")) (aNil)))) (eAndV (e2 mNe (eVar 0) (eC (.str ""))) (eCall mAll (aCons (eComp [1] (iSeq (eVar 0)) (gN 1) (tYesM) (e2 (mIn false) (eVar 1) (eC (.str "abcdefghijklmnopqrstuvwxyz")))) (aNil)))))
def f_is_word : List D → M D := fnD 2 s_is_word
def s_is_name : SM := sRet (eAndV (eCall (mArgs 1 f_is_word) (aCons (eVar 0) (aNil))) (eAndV (e2 mLe (eCall mLen (aCons (eVar 0) (aNil))) (eC (.int 8))) (e2 (mIn true) (eVar 0) (eC (.wtup (c_WORDS.map D.str))))))
def f_is_name : List D → M D := fnD 1 s_is_name
def s_is_shelf_form : SM := sSeq (sIf (tOrM (tNotM (tst (eCall mIsi (aCons (eVar 0) (aCons (eC (.ty "tuple")) (aNil)))))) (tOrM (tNotM (tst (eChain mLe mLe (eC (.int 1)) (eCall mLen (aCons (eVar 0) (aNil))) (eC (.int 7))))) (tNotM (tst (eCall mAll (aCons (eComp [1] (iSeq (eVar 0)) (gN 1) (tYesM) (eCall (mArgs 1 f_is_name) (aCons (eVar 1) (aNil)))) (aNil))))))) (sRet (eC (.bl false))) (sNil)) (sRet (eCall mAll (aCons (eComp [1] (iSeq (eVar 0)) (gN 1) (tYesM) (e2 mEq (eMethL gSeq mCount (eVar 0) (aCons (eVar 1) (aNil))) (eC (.int 1)))) (aNil))))
def f_is_shelf_form : List D → M D := fnD 2 s_is_shelf_form
def s_is_like_shelf : SM := sRet (eAndV (eCall (mArgs 1 f_is_shelf_form) (aCons (eVar 1) (aNil))) (e2 mEq (eCall mSorted (aCons (eVar 1) (aNil))) (eCall mSorted (aCons (eVar 0) (aNil)))))
def f_is_like_shelf : List D → M D := fnD 2 s_is_like_shelf
def s_is_next_seen : SM := sSeq (sIf (tst (e2 mEq (eVar 1) (eCall mTup (aNil)))) (sRet (eCall (mArgs 1 f_is_shelf_form) (aCons (eVar 0) (aNil)))) (sNil)) (sRet (eAndV (e2 mLt (eCall mLen (aCons (eVar 1) (aNil))) (eC (.int 8))) (eCall (mArgs 2 f_is_like_shelf) (aCons (e2 mIx (eVar 1) (eC (.int 0))) (aCons (eVar 0) (aNil))))))
def f_is_next_seen : List D → M D := fnD 2 s_is_next_seen
def s_is_whole : SM := sRet (eAndV (eCall mIsi (aCons (eVar 0) (aCons (eC (.ty "int")) (aNil)))) (eNotV (eCall mIsi (aCons (eVar 0) (aCons (eC (.ty "bool")) (aNil))))))
def f_is_whole : List D → M D := fnD 1 s_is_whole
def s_is_number : SM := sSeq (sIf (tOrM (tNotM (tst (eCall (mArgs 1 f_is_whole) (aCons (eVar 0) (aNil))))) (tAndM (tst (e2 (mIs true) (eVar 1) (eC .non))) (tst (e2 mLt (eVar 0) (eVar 1))))) (sRet (eC (.bl false))) (sNil)) (sRet (eOrV (e2 (mIs false) (eVar 2) (eC .non)) (e2 mLe (eVar 0) (eVar 2))))
def f_is_number : List D → M D := fnD 3 s_is_number
def s_check_number : SM := sIf (tNotM (tst (eCall (mArgs 3 f_is_number) (aCons (eVar 0) (aCons (eVar 1) (aCons (eVar 2) (aNil))))))) (sBad) (sNil)
def f_check_number : List D → M D := fnD 3 s_check_number
def s_check_many : SM := sDrop (eCall (mArgs 3 f_check_number) (aCons (eVar 0) (aCons (eC (.int 0)) (aCons (eC (.int 30)) (aNil)))))
def f_check_many : List D → M D := fnD 1 s_check_many
def s_parts_rows : SM := sSeq (sAsg (eCall mCel (aCons (eCall mLst (aCons (eC (.int 1)) (aNil))) (aNil))) (gN 1)) (sSeq (sFor (iRange1 (aCons (eVar 0) (aNil))) (gN 2) (sSeq (sAsg (eCall mLst (aStar (e2 mIx (eVar 1) (e1 mNeg (eC (.int 1)))) (aCons (eC (.int 0)) (aNil)))) (gN 3)) (sDrop (eMethL gLst mAppend (eVar 1) (aCons (eComp [4] (iRange1 (aCons (eCall mLen (aCons (eVar 3) (aNil))) (aNil))) (gN 4) (tYesM) (e2 mAdd (eIf (tst (e2 mGt (eVar 4) (eC (.int 0)))) (e2 mIx (eVar 3) (e2 mSub (eVar 4) (eC (.int 1)))) (eC (.int 0))) (e2 mMul (eVar 4) (e2 mIx (eVar 3) (eVar 4))))) (aNil)))))) (sSeq (sFz 1) (sRet (eVar 1))))
def f_parts_rows : List D → M D := fnD 5 s_parts_rows
def s_parts_of : SM := sSeq (sAsg (e2 mIx (eCall (mArgs 1 f_parts_rows) (aCons (eVar 0) (aNil))) (eVar 0)) (gN 2)) (sRet (eIf (tst (e2 mLt (eVar 1) (eCall mLen (aCons (eVar 2) (aNil))))) (e2 mIx (eVar 2) (eVar 1)) (eC (.int 0))))
def f_parts_of : List D → M D := fnD 3 s_parts_of
def s_stay_in : SM := sSeq (sAsg (eC (.int 1)) (gN 2)) (sSeq (whileL (tAndM (tst (e2 mLt (eVar 2) (eCall mLen (aCons (eVar 1) (aNil))))) (tst (e2 mLt (eMethL gSeq mIndex (eVar 0) (aCons (e2 mIx (eVar 1) (e2 mSub (e1 mNeg (eVar 2)) (eC (.int 1)))) (aNil))) (eMethL gSeq mIndex (eVar 0) (aCons (e2 mIx (eVar 1) (e1 mNeg (eVar 2))) (aNil)))))) (sAsg (e2 mAdd (eVar 2) (eC (.int 1))) (gN 2)) 10) (sRet (eVar 2)))
def f_stay_in : List D → M D := fnD 3 s_stay_in
def s_fewest_in : SM := sRet (e2 mSub (eCall mLen (aCons (eVar 0) (aNil))) (eCall (mArgs 2 f_stay_in) (aCons (eVar 0) (aCons (eVar 1) (aNil)))))
def f_fewest_in : List D → M D := fnD 2 s_fewest_in
def s_ways_in : SM := sRet (eCall mSum (aCons (eComp [3] (iRange2 (aCons (eCall (mArgs 2 f_fewest_in) (aCons (eVar 0) (aCons (eVar 1) (aNil)))) (aCons (e2 mAdd (eCall mLen (aCons (eVar 0) (aNil))) (eC (.int 1))) (aNil)))) (gN 3) (tYesM) (eCall (mArgs 2 f_parts_of) (aCons (eVar 2) (aCons (eVar 3) (aNil))))) (aNil)))
def f_ways_in : List D → M D := fnD 4 s_ways_in
def s_fewest_of : SM := sRet (eCall mSum (aCons (eComp [1, 2] (iZipD (aCons (eVar 0) (aCons (eSl (eVar 0) (oSome (eC (.int 1))) (oNone)) (aNil)))) (gT 2 (gsCons (gN 1) (gsCons (gN 2) (gsNil)))) (tYesM) (eCall (mArgs 2 f_fewest_in) (aCons (eVar 1) (aCons (eVar 2) (aNil))))) (aNil)))
def f_fewest_of : List D → M D := fnD 3 s_fewest_of
def s_askings_to : SM := sRet (e1 mRev (eSl (eVar 1) (oNone) (oSome (eCall (mArgs 2 f_fewest_in) (aCons (eVar 0) (aCons (eVar 1) (aNil)))))))
def f_askings_to : List D → M D := fnD 2 s_askings_to
def s_askings_by : SM := sRet (eCall mTuple (aCons (eComp [1, 2] (iZipD (aCons (eVar 0) (aCons (eSl (eVar 0) (oSome (eC (.int 1))) (oNone)) (aNil)))) (gT 2 (gsCons (gN 1) (gsCons (gN 2) (gsNil)))) (tYesM) (eCall (mArgs 2 f_askings_to) (aCons (eVar 1) (aCons (eVar 2) (aNil))))) (aNil)))
def f_askings_by : List D → M D := fnD 3 s_askings_by
def s_x_law_rows : SM := sSeq (sAsg (eCall mLst (aCons (eCall mTup (aNil)) (aNil))) (gN 2)) (sSeq (sFor (iRange1 (aCons (eVar 1) (aNil))) (gN 3) (sSeq (sAsg (eCall mLst (aNil)) (gN 4)) (sSeq (sFor (iSeq (eVar 2)) (gN 5) (sAsg (e2 mAdd (eVar 4) (eComp [6] (iSeq (eVar 0)) (gN 6) (tYesM) (e2 mAdd (eVar 5) (eCall mTup (aCons (eVar 6) (aNil)))))) (gN 4))) (sAsg (eVar 4) (gN 2))))) (sRet (eVar 2)))
def f_x_law_rows : List D → M D := fnD 7 s_x_law_rows
def s_x_law_code : SM := sSeq (sAsg (eCall mTup (aNil)) (gN 2)) (sSeq (sFor (iSeq (eVar 1)) (gN 3) (sPar 2 0 (aCons (e2 mAdd (eVar 2) (eCall mTup (aCons (e2 mAdd (eMethL gSeq mIndex (eVar 0) (aCons (eVar 3) (aNil))) (eC (.int 1))) (aNil)))) (aCons (eCall (mArgs 2 f_x_law_asked) (aCons (eVar 0) (aCons (eVar 3) (aNil)))) (aNil))))) (sRet (eVar 2)))
def f_x_law_code : List D → M D := fnD 4 s_x_law_code
def s_check_shelf : SM := sIf (tNotM (tst (eCall (mArgs 1 f_is_shelf_form) (aCons (eVar 0) (aNil))))) (sBad) (sNil)
def f_check_shelf : List D → M D := fnD 1 s_check_shelf
def s_is_one_of : SM := sRet (eAndV (eCall mIsi (aCons (eVar 0) (aCons (eC (.ty "str")) (aNil)))) (e2 (mIn false) (eVar 0) (eVar 1)))
def f_is_one_of : List D → M D := fnD 2 s_is_one_of
def b_wrong_askings : DEnv → M D := eAndV (e2 mLt (eCall mLen (aCons (eVar 1) (aNil))) (eVar 2)) (eCall (mArgs 2 f_is_one_of) (aCons (eVar 0) (aCons (eVar 3) (aNil))))
def s_wrong_askings : SM := sRet (eLamCall [2, 0] (wrongF (lamF 2 2 b_wrong_askings)) (eVar 1))
def f_wrong_askings : List D → M D := fnD 3 s_wrong_askings
def s_check_askings_of : SM := sFor (iSeq (eCall (mArgs 3 f_wrong_askings) (aCons (eVar 0) (aCons (eVar 1) (aCons (eC (.int 30)) (aNil)))))) (gN 2) (sBad)
def f_check_askings_of : List D → M D := fnD 3 s_check_askings_of
def s_check_asked : SM := sSeq (sDrop (eCall (mArgs 1 f_check_shelf) (aCons (eVar 0) (aNil)))) (sDrop (eCall (mArgs 2 f_check_askings_of) (aCons (eVar 0) (aCons (eVar 1) (aNil)))))
def f_check_asked : List D → M D := fnD 2 s_check_asked
def s_check_book_of : SM := sIf (tNotM (tst (eCall (mArgs 2 f_is_one_of) (aCons (eVar 1) (aCons (eVar 0) (aNil)))))) (sBad) (sNil)
def f_check_book_of : List D → M D := fnD 2 s_check_book_of
def s_check_followed : SM := sSeq (sDrop (eCall (mArgs 2 f_check_asked) (aCons (eVar 0) (aCons (eVar 1) (aNil))))) (sDrop (eCall (mArgs 2 f_check_book_of) (aCons (eVar 0) (aCons (eVar 2) (aNil)))))
def f_check_followed : List D → M D := fnD 3 s_check_followed
def s_place_in : SM := sRet (e2 mAdd (eMethL gSeq mIndex (eVar 0) (aCons (eVar 1) (aNil))) (eC (.int 1)))
def f_place_in : List D → M D := fnD 2 s_place_in
def s_fronted : SM := sRet (eCall mTup (aCons (eVar 1) (aStar (eComp [2] (iSeq (eVar 0)) (gN 2) (tst (e2 mNe (eVar 2) (eVar 1))) (eVar 2)) (aNil))))
def f_fronted : List D → M D := fnD 3 s_fronted
def s_shelves_by : SM := sSeq (sAsg (eCall mCel (aCons (eVar 0) (aNil))) (gN 2)) (sSeq (sFor (iSeq (eVar 1)) (gN 3) (sDrop (eMethL gLst mAppend (eVar 2) (aCons (eCall (mArgs 2 f_fronted) (aCons (e2 mIx (eVar 2) (e1 mNeg (eC (.int 1)))) (aCons (eVar 3) (aNil)))) (aNil))))) (sSeq (sFz 2) (sRet (eVar 2))))
def f_shelves_by : List D → M D := fnD 4 s_shelves_by
def s_places_by : SM := sRet (eComp [3] (iSeq (eCall (mArgs 2 f_shelves_by) (aCons (eVar 0) (aCons (eVar 1) (aNil))))) (gN 3) (tYesM) (eCall (mArgs 2 f_place_in) (aCons (eVar 3) (aCons (eVar 2) (aNil)))))
def f_places_by : List D → M D := fnD 4 s_places_by
def s_farthest_back : SM := sSeq (sDrop (eCall (mArgs 3 f_check_followed) (aCons (eVar 0) (aCons (eVar 1) (aCons (eVar 2) (aNil)))))) (sRet (eCall mMax (aCons (eCall (mArgs 3 f_places_by) (aCons (eVar 0) (aCons (eVar 1) (aCons (eVar 2) (aNil))))) (aNil))))
def f_farthest_back : List D → M D := fnD 3 s_farthest_back
def s_times_in_front : SM := sSeq (sDrop (eCall (mArgs 3 f_check_followed) (aCons (eVar 0) (aCons (eVar 1) (aCons (eVar 2) (aNil)))))) (sRet (eMethL gSeq mCount (eCall (mArgs 3 f_places_by) (aCons (eVar 0) (aCons (eVar 1) (aCons (eVar 2) (aNil))))) (aCons (eC (.int 1)) (aNil))))
def f_times_in_front : List D → M D := fnD 3 s_times_in_front
def s_shelves_along : SM := sSeq (sDrop (eCall (mArgs 2 f_check_asked) (aCons (eVar 0) (aCons (eVar 1) (aNil))))) (sRet (eCall mTuple (aCons (eCall (mArgs 2 f_shelves_by) (aCons (eVar 0) (aCons (eVar 1) (aNil)))) (aNil))))
def f_shelves_along : List D → M D := fnD 2 s_shelves_along
def s_code_by : SM := sRet (eComp [2, 3] (iZipD (aCons (eCall (mArgs 2 f_shelves_by) (aCons (eVar 0) (aCons (eVar 1) (aNil)))) (aCons (eVar 1) (aNil)))) (gT 2 (gsCons (gN 2) (gsCons (gN 3) (gsNil)))) (tYesM) (eCall (mArgs 2 f_place_in) (aCons (eVar 2) (aCons (eVar 3) (aNil)))))
def f_code_by : List D → M D := fnD 4 s_code_by
def s_code : SM := sSeq (sDrop (eCall (mArgs 2 f_check_asked) (aCons (eVar 0) (aCons (eVar 1) (aNil))))) (sRet (eCall mTuple (aCons (eCall (mArgs 2 f_code_by) (aCons (eVar 0) (aCons (eVar 1) (aNil)))) (aNil))))
def f_code : List D → M D := fnD 2 s_code
def s_places_along : SM := sSeq (sDrop (eCall (mArgs 3 f_check_followed) (aCons (eVar 0) (aCons (eVar 1) (aCons (eVar 2) (aNil)))))) (sRet (eCall mTuple (aCons (eCall (mArgs 3 f_places_by) (aCons (eVar 0) (aCons (eVar 1) (aCons (eVar 2) (aNil))))) (aNil))))
def f_places_along : List D → M D := fnD 3 s_places_along
def s_x_law_dip : SM := sSeq (sIf (tst (e2 mGt (e2 mIx (eVar 0) (eC (.int 0))) (eC (.int 0)))) (sSeq (sAsg (eCall mDivmod (aCons (e2 mIx (eVar 0) (eC (.int 0))) (aCons (eVar 1) (aNil)))) (gT 2 (gsCons (gIx (eVar 0) (eC (.int 0))) (gsCons (gN 2) (gsNil))))) (sRet (eVar 2))) (sNil)) (sSeq (sAsg (e2 mAdd (e2 mIx (eVar 0) (eC (.int 2))) (eC (.int 1))) (gIx (eVar 0) (eC (.int 2)))) (sSeq (sAsg (e2 mMod (eCall mInt (aCons (e2 mAdd (e2 mAdd (e2 mMul (e2 mIx (eVar 0) (eC (.int 1))) (eC (.int 48271))) (e2 mMul (eC (.int 7919)) (e2 mIx (eVar 0) (eC (.int 2))))) (eC (.int 149))) (aNil))) (eC (.int 2147480009))) (gIx (eVar 0) (eC (.int 1)))) (sRet (e2 mMod (eCall mInt (aCons (e2 mFdiv (e2 mIx (eVar 0) (eC (.int 1))) (eC (.int 163))) (aNil))) (eVar 1)))))
def f_x_law_dip : List D → M D := fnD 3 s_x_law_dip
def s_x_law_one : SM := sRet (e2 mIx (eVar 1) (eCall (mArgs 2 f_x_law_dip) (aCons (eVar 0) (aCons (eCall mLen (aCons (eVar 1) (aNil))) (aNil)))))
def f_x_law_one : List D → M D := fnD 2 s_x_law_one
def s_x_law_words : SM := sSeq (sAsg (eCall mTup (aCons (eC (.str "abcdefghijklmnopqrstuvwxyz")) (aCons (eCall mCel (aNil)) (aNil)))) (gT 2 (gsCons (gN 4) (gsCons (gN 5) (gsNil))))) (sSeq (sAsg (eCall mLst (aCons (eC (.str "ahead")) (aCons (eC (.str "all")) (aCons (eC (.str "as")) (aCons (eC (.str "ask")) (aCons (eC (.str "at")) (aCons (eC (.str "behind")) (aCons (eC (.str "book")) (aCons (eC (.str "by")) (aCons (eC (.str "code")) (aCons (eC (.str "cost")) (aCons (eC (.str "end")) (aCons (eC (.str "first")) (aCons (eC (.str "fixed")) (aNil))))))))))))))) (gN 2)) (sSeq (sAsg (e2 mAdd (eVar 2) (eCall mLst (aCons (eC (.str "front")) (aNil)))) (gN 2)) (sSeq (sAsg (e2 mAdd (eVar 2) (eCall mLst (aCons (eC (.str "in")) (aCons (eC (.str "is")) (aCons (eC (.str "last")) (aCons (eC (.str "leave")) (aCons (eC (.str "never")) (aCons (eC (.str "next")) (aCons (eC (.str "none")) (aCons (eC (.str "of")) (aCons (eC (.str "order")) (aCons (eC (.str "place")) (aCons (eC (.str "put")) (aCons (eC (.str "shelf")) (aNil))))))))))))))) (gN 2)) (sSeq (sAsg (e2 mAdd (eVar 2) (eCall mLst (aCons (eC (.str "step")) (aNil)))) (gN 2)) (sSeq (sAsg (e2 mAdd (eVar 2) (eCall mLst (aCons (eC (.str "take")) (aCons (eC (.str "times")) (aCons (eC (.str "to")) (aCons (eC (.str "undo")) (aCons (eC (.str "with")) (aCons (eC (.str "done")) (aCons (eC (.str "yes")) (aCons (eC (.str "no")) (aCons (eC (.str "back")) (aNil)))))))))))) (gN 2)) (sSeq (sFor (iRange1 (aCons (eVar 1) (aNil))) (gN 3) (sSeq (sAsg (eMethL gStr mJoin (eC (.str "")) (aCons (eComp [8] (iRange1 (aCons (e2 mAdd (eC (.int 1)) (eCall (mArgs 2 f_x_law_dip) (aCons (eVar 0) (aCons (eCall (mArgs 2 f_x_law_one) (aCons (eVar 0) (aCons (eCall mLst (aCons (eC (.int 2)) (aCons (eC (.int 3)) (aCons (eC (.int 8)) (aNil))))) (aNil)))) (aNil))))) (aNil))) (gN 8) (tYesM) (eCall (mArgs 2 f_x_law_one) (aCons (eVar 0) (aCons (eVar 4) (aNil))))) (aNil))) (gN 6)) (sSeq (sAsg (e2 mAdd (e2 mAdd (eCall mLst (aCons (eVar 6) (aNil))) (eComp [9] (iSeq (eVar 4)) (gN 9) (tYesM) (e2 mAdd (e2 mAdd (eSl (eVar 6) (oNone) (oSome (eC (.int 6)))) (eVar 9)) (eC (.str "q"))))) (eComp [9] (iSeq (eVar 4)) (gN 9) (tYesM) (e2 mAdd (e2 mAdd (eSl (eVar 6) (oNone) (oSome (eC (.int 6)))) (eVar 9)) (eC (.str "z"))))) (gN 7)) (sDrop (eMethL gLst mAppend (eVar 5) (aCons (e2 mIx (eComp [10] (iSeq (eVar 7)) (gN 10) (tst (e2 (mIn true) (eVar 10) (e2 mAdd (eVar 5) (eVar 2)))) (eVar 10)) (eC (.int 0))) (aNil))))))) (sSeq (sFz 5) (sRet (eVar 5)))))))))
def f_x_law_words : List D → M D := fnD 11 s_x_law_words
def s_x_law_ask : SM := sRet (e2 mAdd (eCall mTup (aCons (eVar 1) (aNil))) (eCall mTuple (aCons (eComp [2] (iSeq (eVar 0)) (gN 2) (tst (e2 mNe (eVar 2) (eVar 1))) (eVar 2)) (aNil))))
def f_x_law_ask : List D → M D := fnD 3 s_x_law_ask
def s_x_law_asks : SM := sSeq (sAsg (eIf (tst (e2 mEq (eCall (mArgs 2 f_x_law_dip) (aCons (eVar 0) (aCons (eC (.int 2)) (aNil)))) (eC (.int 0)))) (eSl (eVar 1) (oNone) (oSome (e2 mAdd (eC (.int 1)) (eCall (mArgs 2 f_x_law_dip) (aCons (eVar 0) (aCons (eCall mLen (aCons (eVar 1) (aNil))) (aNil))))))) (eVar 1)) (gN 3)) (sRet (eCall mTuple (aCons (eComp [4] (iRange1 (aCons (eCall (mArgs 2 f_x_law_dip) (aCons (eVar 0) (aCons (e2 mAdd (eVar 2) (eC (.int 1))) (aNil)))) (aNil))) (gN 4) (tYesM) (eCall (mArgs 2 f_x_law_one) (aCons (eVar 0) (aCons (eVar 3) (aNil))))) (aNil))))
def f_x_law_asks : List D → M D := fnD 5 s_x_law_asks
def s_x_law_orders : SM := sSeq (sAsg (eCall mLst (aCons (eCall mTup (aNil)) (aNil))) (gN 1)) (sSeq (sFor (iRange1 (aCons (eCall mLen (aCons (eVar 0) (aNil))) (aNil))) (gN 2) (sSeq (sAsg (eCall mLst (aNil)) (gN 3)) (sSeq (sFor (iSeq (eVar 1)) (gN 4) (sAsg (e2 mAdd (eVar 3) (eComp [5] (iSeq (eVar 0)) (gN 5) (tst (e2 (mIn true) (eVar 5) (eVar 4))) (e2 mAdd (eVar 4) (eCall mTup (aCons (eVar 5) (aNil)))))) (gN 3))) (sAsg (eVar 3) (gN 1))))) (sRet (eVar 1)))
def f_x_law_orders : List D → M D := fnD 6 s_x_law_orders
def s_x_law_shelves : SM := sRet (eCall (mArgs 1 f_x_law_orders) (aCons (eCall mSorted (aCons (eVar 0) (aNil))) (aNil)))
def f_x_law_shelves : List D → M D := fnD 1 s_x_law_shelves
def s_last_of : SM := sSeq (sAsg (eCall mTup (aNil)) (gN 1)) (sSeq (sFor (iSeq (e1 mRev (eVar 0))) (gN 2) (sIf (tst (e2 (mIn true) (eVar 2) (eVar 1))) (sAsg (eCall mTup (aStar (eVar 1) (aCons (eVar 2) (aNil)))) (gN 1)) (sNil))) (sRet (eVar 1)))
def f_last_of : List D → M D := fnD 3 s_last_of
def s_deed_by : SM := sRet (eSl (eCall (mArgs 1 f_last_of) (aCons (eVar 1) (aNil))) (oNone) (oSome (e2 mSub (eCall mLen (aCons (eVar 0) (aNil))) (eC (.int 1)))))
def f_deed_by : List D → M D := fnD 2 s_deed_by
def s_left_out_at : SM := sRet (e2 mAdd (eSl (eVar 0) (oNone) (oSome (eVar 1))) (eSl (eVar 0) (oSome (e2 mAdd (eVar 1) (eC (.int 1)))) (oNone)))
def f_left_out_at : List D → M D := fnD 2 s_left_out_at
def s_can_leave : SM := sRet (e2 mEq (eCall (mArgs 2 f_deed_by) (aCons (eVar 0) (aCons (eCall (mArgs 2 f_left_out_at) (aCons (eVar 1) (aCons (eVar 2) (aNil)))) (aNil)))) (eCall (mArgs 2 f_deed_by) (aCons (eVar 0) (aCons (eVar 1) (aNil)))))
def f_can_leave : List D → M D := fnD 3 s_can_leave
def s_needless_at : SM := sSeq (sDrop (eCall (mArgs 2 f_check_asked) (aCons (eVar 0) (aCons (eVar 1) (aNil))))) (sRet (eCall mTuple (aCons (eComp [2] (iRange1 (aCons (eCall mLen (aCons (eVar 1) (aNil))) (aNil))) (gN 2) (tst (eCall (mArgs 3 f_can_leave) (aCons (eVar 0) (aCons (eVar 1) (aCons (eVar 2) (aNil)))))) (eVar 2)) (aNil))))
def f_needless_at : List D → M D := fnD 3 s_needless_at
def s_again_in : SM := sRet (eComp [1, 2] (iEnumD (aCons (eVar 0) (aNil))) (gT 2 (gsCons (gN 1) (gsCons (gN 2) (gsNil)))) (tst (e2 (mIn false) (eVar 2) (eSl (eVar 0) (oSome (e2 mAdd (eVar 1) (eC (.int 1)))) (oNone)))) (eVar 1))
def f_again_in : List D → M D := fnD 3 s_again_in
def s_asked_again : SM := sSeq (sDrop (eCall (mArgs 2 f_check_asked) (aCons (eVar 0) (aCons (eVar 1) (aNil))))) (sRet (eCall mTuple (aCons (eCall (mArgs 1 f_again_in) (aCons (eVar 1) (aNil))) (aNil))))
def f_asked_again : List D → M D := fnD 2 s_asked_again
def s_thinned : SM := sSeq (sDrop (eCall (mArgs 2 f_check_asked) (aCons (eVar 0) (aCons (eVar 1) (aNil))))) (sSeq (sAsg (eCall (mArgs 1 f_again_in) (aCons (eVar 1) (aNil))) (gN 2)) (sRet (eCall mTuple (aCons (eComp [3, 4] (iEnumD (aCons (eVar 1) (aNil))) (gT 2 (gsCons (gN 3) (gsCons (gN 4) (gsNil)))) (tst (e2 (mIn true) (eVar 3) (eVar 2))) (eVar 4)) (aNil)))))
def f_thinned : List D → M D := fnD 5 s_thinned
def s_x_law_turns : SM := sRet (e1 mListRg (eCall mMax (aCons (eC (.int 2)) (aCons (eCall mMin (aCons (eCall mLen (aCons (eVar 0) (aNil))) (aCons (eC (.int 3)) (aNil)))) (aNil)))))
def f_x_law_turns : List D → M D := fnD 1 s_x_law_turns
def s_x_law_level : SM := sRet (eCall mSum (aCons (eComp [4] (iSeq (eCall (mArgs 2 f_x_law_code) (aCons (eVar 0) (aCons (eVar 1) (aNil))))) (gN 4) (tYesM) (eIf (tst (e2 mLe (eVar 4) (eVar 2))) (eC (.int 1)) (eVar 3))) (aNil)))
def f_x_law_level : List D → M D := fnD 5 s_x_law_level
def s_check_price : SM := sDrop (eCall (mArgs 3 f_check_number) (aCons (eVar 0) (aCons (eC (.int 1)) (aCons (eC (.int 99)) (aNil)))))
def f_check_price : List D → M D := fnD 1 s_check_price
def s_misses_by : SM := sRet (eCall mLen (aCons (eComp [3] (iSeq (eCall (mArgs 2 f_code_by) (aCons (eVar 0) (aCons (eVar 1) (aNil))))) (gN 3) (tst (e2 mGt (eVar 3) (eVar 2))) (eC (.int 1))) (aNil)))
def f_misses_by : List D → M D := fnD 4 s_misses_by
def s_level_by : SM := sSeq (sAsg (eCall (mArgs 3 f_misses_by) (aCons (eVar 0) (aCons (eVar 1) (aCons (eVar 2) (aNil))))) (gN 4)) (sRet (e2 mAdd (e2 mSub (eCall mLen (aCons (eVar 1) (aNil))) (eVar 4)) (e2 mMul (eVar 3) (eVar 4))))
def f_level_by : List D → M D := fnD 5 s_level_by
def s_best_level : SM := sSeq (sDrop (eCall (mArgs 2 f_check_asked) (aCons (eVar 0) (aCons (eVar 1) (aNil))))) (sSeq (sDrop (eCall (mArgs 1 f_check_price) (aCons (eVar 2) (aNil)))) (sSeq (sDrop (eCall (mArgs 3 f_check_number) (aCons (eVar 3) (aCons (eC (.int 0)) (aCons (eC (.int 999)) (aNil)))))) (sSeq (sAsg (eComp [5] (iRange2 (aCons (eC (.int 1)) (aCons (e2 mAdd (eCall mLen (aCons (eVar 0) (aNil))) (eC (.int 1))) (aNil)))) (gN 5) (tYesM) (e2 mAdd (eCall (mArgs 4 f_level_by) (aCons (eVar 0) (aCons (eVar 1) (aCons (eVar 5) (aCons (eVar 2) (aNil)))))) (e2 mMul (eVar 3) (eVar 5)))) (gN 4)) (sRet (eCall mTup (aCons (e2 mAdd (eMethL gSeq mIndex (eVar 4) (aCons (eCall mMin (aCons (eVar 4) (aNil))) (aNil))) (eC (.int 1))) (aCons (eCall mMin (aCons (eVar 4) (aNil))) (aNil))))))))
def f_best_level : List D → M D := fnD 6 s_best_level
def s_x_law_split : SM := sSeq (sAsg (eC (.int 0)) (gN 3)) (sSeq (sFor (iSeq (eCall mTup (aCons (eVar 2) (aCons (eComp [6] (iSeq (eVar 0)) (gN 6) (tst (e2 (mIn true) (eVar 6) (eVar 2))) (eVar 6)) (aNil))))) (gN 4) (sSeq (sAsg (eCall mTuple (aCons (eComp [6] (iSeq (eVar 1)) (gN 6) (tst (e2 (mIn false) (eVar 6) (eVar 4))) (eVar 6)) (aNil))) (gN 5)) (sAsg (e2 mAdd (eVar 3) (eCall mSum (aCons (eCall (mArgs 2 f_x_law_code) (aCons (eCall mTuple (aCons (eComp [6] (iSeq (eVar 0)) (gN 6) (tst (e2 (mIn false) (eVar 6) (eVar 4))) (eVar 6)) (aNil))) (aCons (eVar 5) (aNil)))) (aNil)))) (gN 3)))) (sRet (eVar 3)))
def f_x_law_split : List D → M D := fnD 7 s_x_law_split
def s_check_size_of : SM := sSeq (sDrop (eCall (mArgs 3 f_check_number) (aCons (eVar 1) (aCons (eC (.int 1)) (aCons (eC .non) (aNil)))))) (sIf (tst (e2 mGt (eVar 1) (eCall mLen (aCons (eVar 0) (aNil))))) (sBad) (sNil))
def f_check_size_of : List D → M D := fnD 2 s_check_size_of
def s_level_cost : SM := sSeq (sDrop (eCall (mArgs 2 f_check_asked) (aCons (eVar 0) (aCons (eVar 1) (aNil))))) (sSeq (sDrop (eCall (mArgs 2 f_check_size_of) (aCons (eVar 0) (aCons (eVar 2) (aNil))))) (sSeq (sDrop (eCall (mArgs 1 f_check_price) (aCons (eVar 3) (aNil)))) (sRet (eCall (mArgs 4 f_level_by) (aCons (eVar 0) (aCons (eVar 1) (aCons (eVar 2) (aCons (eVar 3) (aNil)))))))))
def f_level_cost : List D → M D := fnD 4 s_level_cost
def s_cost_by : SM := sRet (eCall mSum (aCons (eCall (mArgs 2 f_code_by) (aCons (eVar 0) (aCons (eVar 1) (aNil)))) (aNil)))
def f_cost_by : List D → M D := fnD 2 s_cost_by
def s_pair_by : SM := sSeq (sAsg (eCall mTuple (aCons (eComp [5] (iSeq (eVar 0)) (gN 5) (tst (e2 (mIn false) (eVar 5) (eVar 2))) (eVar 5)) (aNil))) (gN 3)) (sSeq (sAsg (eCall mTuple (aCons (eComp [5] (iSeq (eVar 1)) (gN 5) (tst (e2 (mIn false) (eVar 5) (eVar 2))) (eVar 5)) (aNil))) (gN 4)) (sRet (e2 mSub (eCall (mArgs 2 f_cost_by) (aCons (eVar 3) (aCons (eVar 4) (aNil)))) (eCall mLen (aCons (eVar 4) (aNil))))))
def f_pair_by : List D → M D := fnD 6 s_pair_by
def s_parts_in : SM := sSeq (sAsg (eCall mLst (aCons (eCall mTup (aNil)) (aNil))) (gN 1)) (sSeq (sFor (iSeq (eVar 0)) (gN 2) (sAsg (e2 mAdd (eVar 1) (eComp [3] (iSeq (eVar 1)) (gN 3) (tYesM) (eCall mTup (aStar (eVar 3) (aCons (eVar 2) (aNil)))))) (gN 1))) (sRet (eVar 1)))
def f_parts_in : List D → M D := fnD 4 s_parts_in
def s_among : SM := sRet (eCall mTuple (aCons (eComp [2] (iSeq (eVar 0)) (gN 2) (tst (e2 (mIn false) (eVar 2) (eVar 1))) (eVar 2)) (aNil)))
def f_among : List D → M D := fnD 3 s_among
def s_split_by : SM := sSeq (sAsg (eComp [4] (iSeq (eVar 0)) (gN 4) (tst (e2 (mIn true) (eVar 4) (eVar 2))) (eVar 4)) (gN 3)) (sRet (eCall mSum (aCons (eComp [5] (iSeq (eCall mTup (aCons (eVar 2) (aCons (eVar 3) (aNil))))) (gN 5) (tYesM) (eCall (mArgs 2 f_cost_by) (aCons (eCall (mArgs 2 f_among) (aCons (eVar 0) (aCons (eVar 5) (aNil)))) (aCons (eCall (mArgs 2 f_among) (aCons (eVar 1) (aCons (eVar 5) (aNil)))) (aNil))))) (aNil))))
def f_split_by : List D → M D := fnD 6 s_split_by
def s_check_merged : SM := sSeq (sDrop (eCall (mArgs 1 f_check_shelf) (aCons (eVar 0) (aNil)))) (sFor (iSeq (eCall mTup (aCons (eVar 1) (aCons (eVar 2) (aNil))))) (gN 3) (sFor (iSeq (eCall (mArgs 3 f_wrong_askings) (aCons (eVar 0) (aCons (eVar 3) (aCons (eC (.int 15)) (aNil)))))) (gN 4) (sBad)))
def f_check_merged : List D → M D := fnD 5 s_check_merged
def s_check_like : SM := sIf (tst (e2 mNe (eCall mSorted (aCons (eVar 0) (aNil))) (eCall mSorted (aCons (eVar 1) (aNil))))) (sBad) (sNil)
def f_check_like : List D → M D := fnD 2 s_check_like
def s_check_merged_to : SM := sSeq (sDrop (eCall (mArgs 3 f_check_merged) (aCons (eVar 0) (aCons (eVar 1) (aCons (eVar 2) (aNil)))))) (sSeq (sDrop (eCall (mArgs 1 f_check_shelf) (aCons (eVar 3) (aNil)))) (sDrop (eCall (mArgs 2 f_check_like) (aCons (eVar 0) (aCons (eVar 3) (aNil))))))
def f_check_merged_to : List D → M D := fnD 4 s_check_merged_to
def s_steps_back : SM := sSeq (sAsg (eVar 2) (gT 2 (gsCons (gN 4) (gsCons (gN 5) (gsNil))))) (sSeq (sAsg (eIf (tst (e2 mGt (eVar 4) (eC (.int 0)))) (eCall mLst (aCons (eCall mTup (aCons (eCall mTup (aCons (e2 mSub (eVar 4) (eC (.int 1))) (aCons (eVar 5) (aNil)))) (aCons (e2 mIx (eVar 0) (e2 mSub (eVar 4) (eC (.int 1)))) (aNil)))) (aNil))) (eCall mLst (aNil))) (gN 3)) (sRet (e2 mAdd (eVar 3) (eIf (tst (e2 mGt (eVar 5) (eC (.int 0)))) (eCall mLst (aCons (eCall mTup (aCons (eCall mTup (aCons (eVar 4) (aCons (e2 mSub (eVar 5) (eC (.int 1))) (aNil)))) (aCons (e2 mIx (eVar 1) (e2 mSub (eVar 5) (eC (.int 1)))) (aNil)))) (aNil))) (eCall mLst (aNil))))))
def f_steps_back : List D → M D := fnD 6 s_steps_back
def s_x_law_merges : SM := sSeq (sAsg (eCall mLst (aCons (eCall mTup (aCons (eCall mTup (aNil)) (aCons (eVar 0) (aCons (eVar 1) (aNil))))) (aNil))) (gN 2)) (sSeq (sFor (iRange1 (aCons (e2 mAdd (eCall mLen (aCons (eVar 0) (aNil))) (eCall mLen (aCons (eVar 1) (aNil)))) (aNil))) (gN 3) (sSeq (sAsg (eCall mLst (aNil)) (gN 4)) (sSeq (sFor (iSeq (eVar 2)) (gT 3 (gsCons (gN 5) (gsCons (gN 6) (gsCons (gN 7) (gsNil))))) (sSeq (sAsg (e2 mAdd (eVar 4) (eIf (tst (e2 mNe (eVar 6) (eCall mTup (aNil)))) (eCall mLst (aCons (eCall mTup (aCons (e2 mAdd (eVar 5) (eSl (eVar 6) (oNone) (oSome (eC (.int 1))))) (aCons (eSl (eVar 6) (oSome (eC (.int 1))) (oNone)) (aCons (eVar 7) (aNil))))) (aNil))) (eCall mLst (aNil)))) (gN 4)) (sAsg (e2 mAdd (eVar 4) (eIf (tst (e2 mNe (eVar 7) (eCall mTup (aNil)))) (eCall mLst (aCons (eCall mTup (aCons (e2 mAdd (eVar 5) (eSl (eVar 7) (oNone) (oSome (eC (.int 1))))) (aCons (eVar 6) (aCons (eSl (eVar 7) (oSome (eC (.int 1))) (oNone)) (aNil))))) (aNil))) (eCall mLst (aNil)))) (gN 4)))) (sAsg (eVar 4) (gN 2))))) (sRet (eComp [5, 6, 7] (iSeq (eVar 2)) (gT 3 (gsCons (gN 5) (gsCons (gN 6) (gsCons (gN 7) (gsNil))))) (tYesM) (eVar 5))))
def f_x_law_merges : List D → M D := fnD 8 s_x_law_merges
def s_for_all_number : SM := sSeq (sDrop (eCall (mArgs 1 f_check_shelf) (aCons (eVar 0) (aNil)))) (sSeq (sDrop (eCall (mArgs 1 f_check_many) (aCons (eVar 1) (aNil)))) (sRet (e2 mAdd (eCall (mArgs 2 f_parts_of) (aCons (eVar 1) (aCons (e2 mSub (eCall mLen (aCons (eVar 0) (aNil))) (eC (.int 1))) (aNil)))) (eCall (mArgs 2 f_parts_of) (aCons (eVar 1) (aCons (eCall mLen (aCons (eVar 0) (aNil))) (aNil)))))))
def f_for_all_number : List D → M D := fnD 2 s_for_all_number
def s_is_end_of : SM := sSeq (sAsg (eCall (mArgs 1 f_last_of) (aCons (eVar 1) (aNil))) (gN 2)) (sRet (e2 mEq (eSl (eVar 0) (oNone) (oSome (eCall mLen (aCons (eVar 2) (aNil))))) (eVar 2)))
def f_is_end_of : List D → M D := fnD 3 s_is_end_of
def s_first_origin_by : SM := sSeq (sPar 4 5 (aCons (eCall mTup (aNil)) (aCons (eComp [6] (iSeq (eVar 0)) (gN 6) (tst (e2 (mIn true) (eVar 6) (eVar 1))) (eVar 6)) (aNil)))) (sSeq (sAsg (eCall mSorted (aCons (eComp [6] (iSeq (eVar 0)) (gN 6) (tst (e2 (mIn false) (eVar 6) (eVar 1))) (eVar 6)) (aNil))) (gN 2)) (sSeq (sFor (iSeq (eVar 0)) (gN 3) (sSeq (sAsg (eCall mMin (aCons (e2 mAdd (eSl (eVar 2) (oNone) (oSome (eC (.int 1)))) (eSl (eVar 5) (oNone) (oSome (eC (.int 1))))) (aNil))) (gN 6)) (sSeq (sAsg (eCall mTup (aStar (eVar 4) (aCons (eVar 6) (aNil)))) (gN 4)) (sPar 2 5 (aCons (eComp [7] (iSeq (eVar 2)) (gN 7) (tst (e2 mNe (eVar 7) (eVar 6))) (eVar 7)) (aCons (eComp [7] (iSeq (eVar 5)) (gN 7) (tst (e2 mNe (eVar 7) (eVar 6))) (eVar 7)) (aNil))))))) (sRet (eVar 4))))
def f_first_origin_by : List D → M D := fnD 8 s_first_origin_by
def s_first_origin : SM := sSeq (sDrop (eCall (mArgs 2 f_check_asked) (aCons (eVar 0) (aCons (eVar 1) (aNil))))) (sRet (eIf (tst (eCall (mArgs 2 f_is_end_of) (aCons (eVar 0) (aCons (eVar 1) (aNil))))) (eCall (mArgs 2 f_first_origin_by) (aCons (eVar 0) (aCons (eVar 1) (aNil)))) (eC .non)))
def f_first_origin : List D → M D := fnD 2 s_first_origin
def s_for_all : SM := sSeq (sDrop (eCall (mArgs 1 f_check_shelf) (aCons (eVar 0) (aNil)))) (sRet (e1 mRev (eSl (eVar 0) (oNone) (oSome (e1 mNeg (eC (.int 1)))))))
def f_for_all : List D → M D := fnD 1 s_for_all
def s_is_for_all : SM := sRet (e2 mEq (eCall (mArgs 2 f_deed_by) (aCons (eVar 0) (aCons (eVar 1) (aNil)))) (eSl (eVar 0) (oNone) (oSome (e1 mNeg (eC (.int 1))))))
def f_is_for_all : List D → M D := fnD 2 s_is_for_all
def s_are_for_all : SM := sSeq (sDrop (eCall (mArgs 2 f_check_asked) (aCons (eVar 0) (aCons (eVar 1) (aNil))))) (sRet (eCall (mArgs 2 f_is_for_all) (aCons (eVar 0) (aCons (eVar 1) (aNil)))))
def f_are_for_all : List D → M D := fnD 2 s_are_for_all
def s_x_law_lowest : SM := sSeq (sPar 2 3 (aCons (eCall mAbs (aCons (eVar 0) (aNil))) (aCons (eVar 1) (aNil)))) (sSeq (whileL (tst (e2 mGt (eVar 3) (eC (.int 0)))) (sPar 2 3 (aCons (eVar 3) (aCons (eCall mInt (aCons (e2 mMod (eVar 2) (eVar 3)) (aNil))) (aNil)))) 100) (sRet (eIf (tst (e2 mGt (eVar 2) (eC (.int 0)))) (eCall mTup (aCons (e2 mFdiv (eVar 0) (eVar 2)) (aCons (e2 mFdiv (eVar 1) (eVar 2)) (aNil)))) (eCall mTup (aCons (eC (.int 0)) (aCons (eC (.int 1)) (aNil)))))))
def f_x_law_lowest : List D → M D := fnD 4 s_x_law_lowest
def s_x_law_times : SM := sRet (eCall (mArgs 2 f_x_law_lowest) (aCons (e2 mMul (e2 mIx (eVar 0) (eC (.int 0))) (e2 mIx (eVar 1) (eC (.int 0)))) (aCons (e2 mMul (e2 mIx (eVar 0) (eC (.int 1))) (e2 mIx (eVar 1) (eC (.int 1)))) (aNil))))
def f_x_law_times : List D → M D := fnD 2 s_x_law_times
def s_x_law_plus : SM := sRet (eCall (mArgs 2 f_x_law_lowest) (aCons (e2 mAdd (e2 mMul (e2 mIx (eVar 0) (eC (.int 0))) (e2 mIx (eVar 1) (eC (.int 1)))) (e2 mMul (e2 mIx (eVar 1) (eC (.int 0))) (e2 mIx (eVar 0) (eC (.int 1))))) (aCons (e2 mMul (e2 mIx (eVar 0) (eC (.int 1))) (e2 mIx (eVar 1) (eC (.int 1)))) (aNil))))
def f_x_law_plus : List D → M D := fnD 2 s_x_law_plus
def s_x_law_weights : SM := sRet (eCall mTuple (aCons (eComp [2] (iSeq (eVar 1)) (gN 2) (tYesM) (eCall (mArgs 2 f_x_law_of) (aCons (eVar 0) (aCons (eCall mTup (aCons (eC (.int 1)) (aCons (eC (.int 1)) (aCons (eC (.int 2)) (aCons (eC (.int 3)) (aCons (eC (.int 10)) (aCons (eC (.int 99)) (aNil)))))))) (aNil))))) (aNil)))
def f_x_law_weights : List D → M D := fnD 3 s_x_law_weights
def s_is_tuple_of : SM := sRet (eAndV (eCall mIsi (aCons (eVar 0) (aCons (eC (.ty "tuple")) (aNil)))) (e2 mEq (eCall mLen (aCons (eVar 0) (aNil))) (eVar 1)))
def f_is_tuple_of : List D → M D := fnD 2 s_is_tuple_of
def s_power_of : SM := sSeq (sAsg (eC (.int 1)) (gN 2)) (sSeq (sFor (iRange1 (aCons (eVar 1) (aNil))) (gN 3) (sAsg (e2 mMul (eVar 2) (eVar 0)) (gN 2))) (sRet (eVar 2)))
def f_power_of : List D → M D := fnD 4 s_power_of
def s_read_numbers : SM := sSeq (sAsg (e2 mAdd (eCall mLst (aCons (eC (.int 1)) (aNil))) (e2 mRepL (eCall mLst (aCons (eC (.int 0)) (aNil))) (eCall mLen (aCons (eVar 0) (aNil))))) (gN 2)) (sSeq (sFor (iRange1 (aCons (eVar 1) (aNil))) (gN 3) (sSeq (sPar 5 6 (aCons (eC (.int 0)) (aCons (eCall mCel (aNil)) (aNil)))) (sSeq (sFor (iRange1 (aCons (eCall mLen (aCons (eVar 2) (aNil))) (aNil))) (gN 4) (sSeq (sAsg (eIf (tst (e2 mGt (eVar 4) (eC (.int 0)))) (e2 mMul (e2 mIx (eVar 2) (e2 mSub (eVar 4) (eC (.int 1)))) (e2 mIx (eVar 0) (e2 mSub (eVar 4) (eC (.int 1))))) (eC (.int 0))) (gN 7)) (sSeq (sAsg (e2 mAdd (eVar 5) (eIf (tst (e2 mGt (eVar 4) (eC (.int 0)))) (e2 mIx (eVar 0) (e2 mSub (eVar 4) (eC (.int 1)))) (eC (.int 0)))) (gN 5)) (sDrop (eMethL gLst mAppend (eVar 6) (aCons (e2 mAdd (e2 mMul (e2 mIx (eVar 2) (eVar 4)) (eVar 5)) (eVar 7)) (aNil))))))) (sSeq (sFz 6) (sAsg (eVar 6) (gN 2)))))) (sRet (eVar 2)))
def f_read_numbers : List D → M D := fnD 8 s_read_numbers
def s_away_from_home : SM := sSeq (sAsg (eCall mCel (aCons (eC (.int 1)) (aCons (eC (.int 0)) (aNil)))) (gN 1)) (sSeq (sFor (iRange2 (aCons (eC (.int 2)) (aCons (e2 mAdd (eVar 0) (eC (.int 1))) (aNil)))) (gN 2) (sDrop (eMethL gLst mAppend (eVar 1) (aCons (e2 mMul (e2 mSub (eVar 2) (eC (.int 1))) (e2 mAdd (e2 mIx (eVar 1) (e2 mSub (eVar 2) (eC (.int 1)))) (e2 mIx (eVar 1) (e2 mSub (eVar 2) (eC (.int 2)))))) (aNil))))) (sSeq (sFz 1) (sRet (e2 mIx (eVar 1) (eVar 0)))))
def f_away_from_home : List D → M D := fnD 3 s_away_from_home
def s_none_at_home : SM := sSeq (sDrop (eCall (mArgs 3 f_check_number) (aCons (eVar 0) (aCons (eC (.int 0)) (aCons (eC (.int 7)) (aNil)))))) (sRet (eCall (mArgs 1 f_away_from_home) (aCons (eVar 0) (aNil))))
def f_none_at_home : List D → M D := fnD 1 s_none_at_home
def s_check_led : SM := sSeq (sDrop (eCall (mArgs 1 f_check_shelf) (aCons (eVar 0) (aNil)))) (sSeq (sDrop (eCall (mArgs 1 f_check_shelf) (aCons (eVar 1) (aNil)))) (sSeq (sDrop (eCall (mArgs 1 f_check_many) (aCons (eVar 2) (aNil)))) (sDrop (eCall (mArgs 2 f_check_like) (aCons (eVar 0) (aCons (eVar 1) (aNil)))))))
def f_check_led : List D → M D := fnD 3 s_check_led
def s_check_books_number : SM := sDrop (eCall (mArgs 3 f_check_number) (aCons (eVar 0) (aCons (eC (.int 1)) (aCons (eC (.int 7)) (aNil)))))
def f_check_books_number : List D → M D := fnD 1 s_check_books_number
end Sh
/-! VM1: the meanings, read as what holds behind them. -/
namespace VL
open PySem PySem.Spec PyProof.Rows L2
@[irreducible] def Ret {α : Type} (r : Res α) (Q : α → Sto → Prop) : Prop := match r with
  | .ok a S => Q a S
  | .bad => False
@[irreducible] def W (r : SR) (nx : DEnv → Sto → Prop) (rt : D → Sto → Prop) (bk ct : DEnv → Sto → Prop) : Prop := match r with
  | .nx en S => nx en S
  | .rt d S => rt d S
  | .bk en S => bk en S
  | .ct en S => ct en S
  | .bad => False
section
variable {α β : Type} {S : Sto} {Q : α → Sto → Prop} {en : DEnv} {nx bk ct : DEnv → Sto → Prop} {rt : D → Sto → Prop} {P : D → Sto → Prop} {PL : List D → Sto → Prop} {PB : Bool → Sto → Prop} {PE' : DEnv → Sto → Prop} {f g h : DEnv → M D} {fs fk : DEnv → M (List D)} {c c2 : DEnv → M Bool}
theorem Ret.mono {r : Res α} {Q Q' : α → Sto → Prop} (h : Ret r Q) (i : ∀ a S, Q a S → Q' a S) : Ret r Q' := by
  cases r with
  | ok a S => with_unfolding_all exact i a S h
  | bad => with_unfolding_all exact h
theorem Ret.ex {r : Res α} {Q : α → Sto → Prop} (h : Ret r Q) : ∃ a S, r = .ok a S ∧ Q a S := by
  cases r with
  | ok a S => with_unfolding_all exact ⟨a, S, rfl, h⟩
  | bad => with_unfolding_all exact h.elim
theorem W.mono {r : SR} {nx nx' bk bk' ct ct' : DEnv → Sto → Prop} {rt rt' : D → Sto → Prop} (h : W r nx rt bk ct) (h1 : ∀ en S, nx en S → nx' en S) (h2 : ∀ d S, rt d S → rt' d S) (h3 : ∀ en S, bk en S → bk' en S) (h4 : ∀ en S, ct en S → ct' en S) : W r nx' rt' bk' ct' := by
  cases r with
  | nx en S => with_unfolding_all exact h1 _ _ h
  | rt d S => with_unfolding_all exact h2 _ _ h
  | bk en S => with_unfolding_all exact h3 _ _ h
  | ct en S => with_unfolding_all exact h4 _ _ h
  | bad => with_unfolding_all exact h
@[simp] theorem ret_ok {a : α} : Ret (.ok a S) Q = Q a S := by with_unfolding_all exact id rfl
@[simp] theorem ret_bad : Ret (.bad : Res α) Q = False := by with_unfolding_all exact id rfl
@[simp] theorem ret_mbad : Ret ((M.bad : M α) S) Q = False := by with_unfolding_all exact id rfl
@[simp] theorem ret_pure {a : α} : Ret (M.pure a S) Q = Q a S := by with_unfolding_all exact id rfl
@[simp] theorem ret_bind {x : M β} {k : β → M α} : Ret (M.bind x k S) Q = Ret (x S) fun a S1 => Ret (k a S1) Q := by
  unfold M.bind
  cases x S <;> with_unfolding_all rfl
theorem ret_ite {p : Prop} [Decidable p] {r r' : Res α} : Ret (if p then r else r') Q = if p then Ret r Q else Ret r' Q := by split <;> with_unfolding_all rfl
@[simp] theorem ret_iteb {p : Prop} [Decidable p] {r : Res α} : Ret (if p then r else .bad) Q = (p ∧ Ret r Q) := by
  split
  · rename_i h; simp [h]
  · rename_i h; simp [h]
theorem ret_item {p : Prop} [Decidable p] {x y : M α} : Ret ((if p then x else y) S) Q = if p then Ret (x S) Q else Ret (y S) Q := by split <;> with_unfolding_all rfl
@[simp] theorem ret_var {i : Nat} : Ret (eVar i en S) P = (match en[i]? with
  | some (some d) => P d S
  | _ => False) := by
  unfold eVar
  cases en[i]? with
  | none => with_unfolding_all rfl
  | some o => cases o <;> with_unfolding_all rfl
@[simp] theorem ret_c {d : D} : Ret (eC d en S) P = P d S := by with_unfolding_all exact id rfl
@[simp] theorem ret_e1 {m : D → M D} : Ret (e1 m f en S) P = Ret (f en S) fun d S => Ret (m d S) P := by with_unfolding_all exact ret_bind
@[simp] theorem ret_e2 {m : D → D → M D} : Ret (e2 m f g en S) P = Ret (f en S) fun d S => Ret (g en S) fun e S => Ret (m d e S) P := by
  unfold e2
  simp only [ret_bind]
@[simp] theorem ret_nil : Ret (aNil en S) PL = PL [] S := by with_unfolding_all exact id rfl
@[simp] theorem ret_cons : Ret (aCons f fs en S) PL = Ret (f en S) fun d S => Ret (fs en S) fun ds S => PL (d :: ds) S := by
  unfold aCons
  simp only [ret_bind, ret_pure]
@[simp] theorem ret_star : Ret (aStar f fs en S) PL = Ret (f en S) fun d S => Ret (mSeq d S) fun xs S => Ret (fs en S) fun ds S => PL (xs ++ ds) S := by
  unfold aStar
  simp only [ret_bind, ret_pure]
@[simp] theorem ret_call {m : List D → M D} : Ret (eCall m fs en S) P = Ret (fs en S) fun ds S => Ret (m ds S) P := by with_unfolding_all exact ret_bind
@[simp] theorem ret_callK {n m : Nat} {F : List D → M D} : Ret (eCallK n m F fs fk en S) P = Ret (fs en S) fun ds S => Ret (fk en S) fun ks S => Ret (F (gK n m ds ks) S) P := by
  unfold eCallK
  simp only [ret_bind]
@[simp] theorem ret_margs {n : Nat} {F : List D → M D} {ds : List D} : Ret (mArgs n F ds S) P = (ds.length = n ∧ Ret (F ds S) P) := by with_unfolding_all exact ret_iteb
@[simp] theorem ret_tst : Ret (tst f en S) PB = Ret (f en S) fun d S => Ret (mBool d S) PB := by with_unfolding_all exact ret_bind
@[simp] theorem ret_mbool {b : Bool} : Ret (mBool (.bl b) S) PB = PB b S := by with_unfolding_all exact id rfl
@[simp] theorem ret_andm : Ret (tAndM c c2 en S) PB = Ret (c en S) fun b S => if b = true then Ret (c2 en S) PB else PB false S := by
  unfold tAndM
  simp only [ret_bind]
  congr 1; funext b S; split <;> with_unfolding_all rfl
@[simp] theorem ret_orm : Ret (tOrM c c2 en S) PB = Ret (c en S) fun b S => if b = true then PB true S else Ret (c2 en S) PB := by
  unfold tOrM
  simp only [ret_bind]
  congr 1; funext b S; split <;> with_unfolding_all rfl
@[simp] theorem ret_notm : Ret (tNotM c en S) PB = Ret (c en S) fun b S => PB (!b) S := by with_unfolding_all exact ret_bind
@[simp] theorem ret_if : Ret (eIf c f g en S) P = Ret (c en S) fun b S => if b = true then Ret (f en S) P else Ret (g en S) P := by
  unfold eIf
  simp only [ret_bind]
  congr 1; funext b S; split <;> with_unfolding_all rfl
@[simp] theorem ret_andv : Ret (eAndV f g en S) P = Ret (f en S) fun d S => Ret (mBool d S) fun b S => if b = true then Ret (g en S) P else P (.bl false) S := by
  unfold eAndV
  simp only [ret_bind]
  congr 1; funext d S; congr 1; funext b S; split <;> with_unfolding_all rfl
@[simp] theorem ret_orv : Ret (eOrV f g en S) P = Ret (f en S) fun d S => Ret (mBool d S) fun b S => if b = true then P (.bl true) S else Ret (g en S) P := by
  unfold eOrV
  simp only [ret_bind]
  congr 1; funext d S; congr 1; funext b S; split <;> with_unfolding_all rfl
@[simp] theorem ret_notv : Ret (eNotV f en S) P = Ret (f en S) fun d S => Ret (mBool d S) fun b S => P (.bl (!b)) S := by
  unfold eNotV
  simp only [ret_bind, ret_pure]
@[simp] theorem ret_chain {m m' : D → D → M D} : Ret (eChain m m' f g h en S) P = Ret (f en S) fun x S => Ret (g en S) fun y S => Ret (m x y S) fun r S => Ret (mBool r S) fun b S => if b = true then Ret (h en S) fun z S => Ret (m' y z S) P else P (.bl false) S := by
  unfold eChain
  simp only [ret_bind]
  congr 1; funext x S; congr 1; funext y S; congr 1; funext r S; congr 1; funext b S
  split
  · with_unfolding_all exact ret_bind
  · with_unfolding_all rfl
@[simp] theorem ret_onone {PO' : Option Int → Sto → Prop} : Ret (oNone en S) PO' = PO' none S := by with_unfolding_all exact id rfl
@[simp] theorem ret_osome {PO' : Option Int → Sto → Prop} : Ret (oSome f en S) PO' = Ret (f en S) fun d S => (match d with
  | .int i => PO' (some i) S
  | _ => False) := by
  unfold oSome
  with_unfolding_all refine ret_bind.trans ?_
  congr 1; funext d S; cases d <;> with_unfolding_all rfl
@[simp] theorem ret_sl {l u : DEnv → M (Option Int)} : Ret (eSl f l u en S) P = Ret (f en S) fun d S => Ret (l en S) fun lo S => Ret (u en S) fun hi S => Ret (mSl d lo hi S) P := by
  unfold eSl
  simp only [ret_bind]
@[simp] theorem ret_comp {ws : List Nat} {i : DEnv → M (List D)} {gt : D → DEnv → M DEnv} {t : DEnv → M Bool} : Ret (eComp ws i gt t f en S) P = Ret (i en S) fun ds S => Ret (compL gt t f (wipeD en ws) ds [] S) fun xs S => P (.lst xs) S := by
  unfold eComp
  with_unfolding_all refine ret_bind.trans ?_
  congr 1; funext ds S
  with_unfolding_all exact ret_bind
@[simp] theorem ret_compC {ws : List Nat} {i : DEnv → M (List D)} {gt : D → DEnv → M DEnv} {t : DEnv → M Bool} : Ret (eCompC ws i gt t f en S) P = Ret (i en S) fun ds S => Ret (compL gt t f (wipeD en ws) ds [] S) fun xs S => P (.cel S.length) (S ++ [some xs]) := by
  unfold eCompC
  with_unfolding_all refine ret_bind.trans ?_
  congr 1; funext ds S
  with_unfolding_all exact ret_bind
@[simp] theorem ret_yes : Ret (tYesM en S) PB = PB true S := by with_unfolding_all exact id rfl
@[simp] theorem ret_iseq : Ret (iSeq f en S) PL = Ret (f en S) fun d S => Ret (mIter d S) PL := by with_unfolding_all exact ret_bind
@[simp] theorem ret_irange1 : Ret (iRange1 fs en S) PL = Ret (fs en S) fun d S => Ret (mRange1 d S) PL := by with_unfolding_all exact ret_bind
@[simp] theorem ret_irange2 : Ret (iRange2 fs en S) PL = Ret (fs en S) fun d S => Ret (mRange2 d S) PL := by with_unfolding_all exact ret_bind
@[simp] theorem ret_ienum : Ret (iEnumD fs en S) PL = Ret (fs en S) fun d S => Ret (mEnum d S) PL := by with_unfolding_all exact ret_bind
@[simp] theorem ret_izip : Ret (iZipD fs en S) PL = Ret (fs en S) fun d S => Ret (mZip d S) PL := by with_unfolding_all exact ret_bind
@[simp] theorem ret_gN {i : Nat} {d : D} : Ret (gN i d en S) PE' = PE' (en.set i (some d)) S := by with_unfolding_all exact id rfl
@[simp] theorem ret_gsnil : Ret (gsNil [] en S) PE' = PE' en S := by with_unfolding_all exact id rfl
@[simp] theorem ret_gscons {gt : D → DEnv → M DEnv} {gs : List D → DEnv → M DEnv} {d : D} {ds : List D} : Ret (gsCons gt gs (d :: ds) en S) PE' = Ret (gt d en S) fun en S => Ret (gs ds en S) PE' := by with_unfolding_all exact ret_bind
@[simp] theorem ret_gT {n : Nat} {gs : List D → DEnv → M DEnv} {d : D} : Ret (gT n gs d en S) PE' = (match tupOf d with
  | some ds => ds.length = n ∧ Ret (gs ds en S) PE'
  | none => False) := by
  unfold gT
  cases tupOf d with
  | none => with_unfolding_all rfl
  | some ds => exact ret_iteb
@[simp] theorem ret_gIx {fo fi : DEnv → M D} {d : D} : Ret (gIx fo fi d en S) PE' = Ret (fo en S) fun o S => Ret (fi en S) fun i S => Ret (mSet o i d en S) PE' := by
  unfold gIx
  simp only [ret_bind]
@[simp] theorem ret_methL {gk : Kd → Bool} {m : D → List D → M D} : Ret (eMethL gk m f fs en S) P = Ret (f en S) fun x S => Ret (mLive x S) fun _ S => (match kdOf x with
  | some k => gk k = true ∧ Ret (fs en S) fun xs S => Ret (m x xs S) P
  | none => False) := by
  unfold eMethL
  simp only [ret_bind]
  congr 1; funext x S; congr 1; funext u S
  cases kdOf x with
  | none => with_unfolding_all rfl
  | some k =>
    simp only []
    split
    · rename_i h; simp [h]
    · rename_i h; simp [h]
@[simp] theorem ret_callG {i : Nat} {Φ : Str → Option (List D → M D)} : Ret (eCallG i Φ fs en S) P = Ret (eVar i en S) fun d S => (match d with
  | .glo y => match Φ y with
    | some F => Ret (fs en S) fun ds S => Ret (F ds S) P
    | none => False
  | _ => False) := by
  unfold eCallG
  with_unfolding_all refine ret_bind.trans ?_
  congr 1; funext d S
  cases d with
  | glo y =>
    cases h : Φ y with
    | none => simp only [h]; with_unfolding_all rfl
    | some F => simp only [h]; exact ret_bind
  | _ => with_unfolding_all rfl
/-! ### statements -/
@[simp] theorem ret_fnD {N : Nat} {gs : SM} {ds : List D} : Ret (fnD N gs ds S) P = W (gs (ds.map some ++ List.replicate (N - ds.length) none) S) (fun _ S => P .non S) P (fun _ _ => False) (fun _ _ => False) := by
  unfold fnD
  cases gs (ds.map some ++ List.replicate (N - ds.length) none) S <;> with_unfolding_all rfl
@[simp] theorem w_seq {a b : SM} : W (sSeq a b en S) nx rt bk ct = W (a en S) (fun en S => W (b en S) nx rt bk ct) rt bk ct := by
  unfold sSeq
  cases a en S <;> with_unfolding_all rfl
@[simp] theorem w_nil : W (sNil en S) nx rt bk ct = nx en S := by with_unfolding_all exact id rfl
@[simp] theorem w_bad : W (sBad en S) nx rt bk ct = False := by with_unfolding_all exact id rfl
@[simp] theorem w_brk : W (sBrk en S) nx rt bk ct = bk en S := by with_unfolding_all exact id rfl
theorem w_sB {x : M α} {k : α → Sto → SR} : W (sB x k S) nx rt bk ct = Ret (x S) fun a S => W (k a S) nx rt bk ct := by
  unfold sB
  cases x S <;> with_unfolding_all rfl
@[simp] theorem w_ret : W (sRet f en S) nx rt bk ct = Ret (f en S) rt := by with_unfolding_all exact w_sB
@[simp] theorem w_retN : W (sRetN en S) nx rt bk ct = rt .non S := by with_unfolding_all exact id rfl
@[simp] theorem w_drop : W (sDrop f en S) nx rt bk ct = Ret (f en S) fun _ S => nx en S := by with_unfolding_all exact w_sB
@[simp] theorem w_if {a b : SM} : W (sIf c a b en S) nx rt bk ct = Ret (c en S) fun k S => if k = true then W (a en S) nx rt bk ct else W (b en S) nx rt bk ct := by
  unfold sIf
  with_unfolding_all refine w_sB.trans ?_
  congr 1; funext k S; split <;> with_unfolding_all rfl
@[simp] theorem w_asg {gt : D → DEnv → M DEnv} : W (sAsg f gt en S) nx rt bk ct = Ret (f en S) fun d S => Ret (gt d en S) nx := by
  unfold sAsg
  with_unfolding_all refine w_sB.trans ?_
  congr 1; funext d S
  with_unfolding_all exact w_sB
@[simp] theorem w_par {i j : Nat} : W (sPar i j fs en S) nx rt bk ct = Ret (fs en S) fun ds S => (match ds with
  | [d, e] => nx ((en.set i (some d)).set j (some e)) S
  | _ => False) := by
  unfold sPar
  with_unfolding_all refine w_sB.trans ?_
  congr 1; funext ds S
  match ds with
  | [] => with_unfolding_all rfl
  | [_] => with_unfolding_all rfl
  | [_, _] => with_unfolding_all rfl
  | _ :: _ :: _ :: _ => with_unfolding_all rfl
@[simp] theorem w_par3 {i j l : Nat} : W (sPar3 i j l fs en S) nx rt bk ct = Ret (fs en S) fun ds S => (match ds with
  | [d, e, c] => nx (((en.set i (some d)).set j (some e)).set l (some c)) S
  | _ => False) := by
  unfold sPar3
  with_unfolding_all refine w_sB.trans ?_
  congr 1; funext ds S
  match ds with
  | [] => with_unfolding_all rfl
  | [_] => with_unfolding_all rfl
  | [_, _] => with_unfolding_all rfl
  | [_, _, _] => with_unfolding_all rfl
  | _ :: _ :: _ :: _ :: _ => with_unfolding_all rfl
@[simp] theorem w_fz {i : Nat} : W (sFz i en S) nx rt bk ct = (match en[i]? with
  | some (some (.cel n)) => (match (S[n]?).join with
    | some ds => nx (en.set i (some (.lst ds))) (S.set n none)
    | none => False)
  | _ => False) := by
  unfold sFz
  cases en[i]? with
  | none => with_unfolding_all rfl
  | some o =>
    cases o with
    | none => with_unfolding_all rfl
    | some d =>
      cases d with
      | cel n =>
        simp only []
        cases (S[n]?).join <;> with_unfolding_all rfl
      | _ => with_unfolding_all rfl
@[simp] theorem w_for {i : DEnv → M (List D)} {gt : D → DEnv → M DEnv} {b : SM} : W (sFor i gt b en S) nx rt bk ct = Ret (i en S) fun ds S => W (forL gt b ds en S) nx rt bk ct := by with_unfolding_all exact w_sB
theorem for_wp {gt : D → DEnv → M DEnv} {b : SM} (I : Nat → DEnv → Sto → Prop) : ∀ (ds : List D) (n : Nat) (en : DEnv) (S : Sto), I n en S → (∀ i d en S, ds[i]? = some d → I (n + i) en S → Ret (gt d en S) fun en S => W (b en S) (I (n + i + 1)) rt nx (I (n + i + 1))) → (∀ en S, I (n + ds.length) en S → nx en S) → W (forL gt b ds en S) nx rt bk ct
  | [], n, en, S, h0, _, he => by with_unfolding_all exact he en S h0
  | d :: ds, n, en, S, h0, hs, he => by
    have h1 := hs 0 d en S rfl h0
    simp only [forL]
    obtain ⟨en1, S1, e1, h2⟩ := h1.ex
    rw [e1]
    have rest : ∀ en S, I (n + 1) en S → W (forL gt b ds en S) nx rt bk ct := fun en S h => for_wp I ds (n + 1) en S h (fun i d en S hd h => by
      have := hs (i + 1) d en S (by simpa using hd) (by rw [show n + (i + 1) = n + 1 + i by omega]; exact h)
      rw [show n + (i + 1) + 1 = n + 1 + i + 1 by omega] at this
      exact this) (fun en S h => he en S (by rw [List.length_cons, show n + (ds.length + 1) = n + 1 + ds.length by omega]; exact h))
    simp only []
    cases eb : b en1 S1 with
    | nx en2 S2 => rw [eb] at h2; exact rest _ _ (by with_unfolding_all exact h2)
    | ct en2 S2 => rw [eb] at h2; exact rest _ _ (by with_unfolding_all exact h2)
    | bk en2 S2 => rw [eb] at h2; with_unfolding_all exact h2
    | rt d S2 => rw [eb] at h2; with_unfolding_all exact h2
    | bad => rw [eb] at h2; with_unfolding_all exact h2
theorem w_while {c : DEnv → M Bool} {b : SM} {n : Nat} : W (whileL c b (n + 1) en S) nx rt bk ct = Ret (c en S) fun k S => if k = true then W (b en S) (fun en S => W (whileL c b n en S) nx rt bk ct) rt nx (fun en S => W (whileL c b n en S) nx rt bk ct) else nx en S := by
  simp only [whileL]
  cases c en S with
  | bad => with_unfolding_all rfl
  | ok k S1 =>
    cases k with
    | false => with_unfolding_all rfl
    | true =>
      simp only [ret_ok, if_true]
      cases b en S1 <;> with_unfolding_all rfl
theorem comp_wp {gt : D → DEnv → M DEnv} {t : DEnv → M Bool} (I : Nat → List D → Sto → Prop) : ∀ (ds : List D) (n : Nat) (acc : List D) (S : Sto), I n acc S → (∀ i d acc S, ds[i]? = some d → I (n + i) acc S → Ret (gt d en S) fun en1 S => Ret (t en1 S) fun b S => if b = true then Ret (f en1 S) fun x S => acc.length < LINE ∧ I (n + i + 1) (acc ++ [x]) S else I (n + i + 1) acc S) →
    (∀ acc S, I (n + ds.length) acc S → PL acc S) → Ret (compL gt t f en ds acc S) PL
  | [], n, acc, S, h0, _, he => by with_unfolding_all exact he acc S h0
  | d :: ds, n, acc, S, h0, hs, he => by
    have h1 := hs 0 d acc S rfl h0
    simp only [compL]
    obtain ⟨en1, S1, e1, h2⟩ := h1.ex
    rw [e1]
    have rest : ∀ acc S, I (n + 1) acc S → Ret (compL gt t f en ds acc S) PL := fun acc S h => comp_wp I ds (n + 1) acc S h (fun i d acc S hd h => by
      have := hs (i + 1) d acc S (by simpa using hd) (by rw [show n + (i + 1) = n + 1 + i by omega]; exact h)
      rw [show n + (i + 1) + 1 = n + 1 + i + 1 by omega] at this
      exact this) (fun acc S h => he acc S (by rw [List.length_cons, show n + (ds.length + 1) = n + 1 + ds.length by omega]; exact h))
    obtain ⟨b, S2, e2, h3⟩ := h2.ex
    simp only [e2]
    cases b with
    | false => exact rest _ _ (by simpa using h3)
    | true =>
      simp only [if_true] at h3
      obtain ⟨x, S3, e3, h4⟩ := h3.ex
      simp only [e3]
      rw [if_pos h4.1]
      exact rest _ _ h4.2
/-- a comprehension that changes nothing -/
theorem comp_pure' {γ : Type} {gt : D → DEnv → M DEnv} {t : DEnv → M Bool} {enc : γ → D} {p : γ → Bool} {k : γ → D} : ∀ (xs : List γ) (acc : List D), (∀ x ∈ xs, Ret (gt (enc x) en S) fun en1 S1 => S1 = S ∧ Ret (t en1 S) fun b S1 => S1 = S ∧ b = p x ∧ (p x = true → Ret (f en1 S) fun d S1 => S1 = S ∧ d = k x)) → acc.length + xs.length ≤ LINE →
    PL (acc ++ (xs.filter p).map k) S → Ret (compL gt t f en (xs.map enc) acc S) PL
  | [], acc, _, _, hq => by
    rw [List.filter_nil, List.map_nil, List.append_nil] at hq
    with_unfolding_all exact hq
  | x :: xs, acc, hs, hl, hq => by
    obtain ⟨en1, S1, e1, h1, h2⟩ := (hs x List.mem_cons_self).ex
    rw [h1] at e1
    obtain ⟨b, S2, e2, h3, h4, h5⟩ := h2.ex
    rw [h3] at e2
    have hs' := fun y hy => hs y (List.mem_cons_of_mem x hy)
    rw [List.length_cons] at hl
    rw [List.map_cons]
    unfold compL
    rw [e1]
    simp only []
    rw [e2]
    cases hp : p x with
    | false =>
      have eb : b = false := h4.trans hp
      subst eb
      rw [List.filter_cons_of_neg (by rw [hp]; exact Bool.false_ne_true)] at hq
      exact comp_pure' xs acc hs' (by omega) hq
    | true =>
      have eb : b = true := h4.trans hp
      subst eb
      obtain ⟨d, S3, e3, h6, h7⟩ := (h5 hp).ex
      rw [h6, h7] at e3
      rw [List.filter_cons_of_pos hp, List.map_cons] at hq
      simp only []
      rw [e3]
      simp only []
      rw [if_pos (by omega)]
      refine comp_pure' xs (acc ++ [k x]) hs' (by rw [List.length_append, List.length_singleton]; omega) ?_
      rw [List.append_assoc]
      exact hq
theorem comp_pure {γ : Type} {gt : D → DEnv → M DEnv} {t : DEnv → M Bool} {enc : γ → D} {p : γ → Bool} {k : γ → D} {xs : List γ} (hstep : ∀ x ∈ xs, Ret (gt (enc x) en S) fun en1 S1 => S1 = S ∧ Ret (t en1 S) fun b S1 => S1 = S ∧ b = p x ∧ (p x = true → Ret (f en1 S) fun d S1 => S1 = S ∧ d = k x)) (hl : xs.length ≤ LINE)
    (hq : PL ((xs.filter p).map k) S) : Ret (compL gt t f en (xs.map enc) [] S) PL := comp_pure' xs [] hstep (by simpa using hl) (by simpa using hq)
end
theorem gk01 {α : Type} {a : α} : gK 0 1 [] [a] = [a] := if_pos ⟨rfl, rfl⟩
theorem gk02 {α : Type} {a b : α} : gK 0 2 [] [a, b] = [a, b] := if_pos ⟨rfl, rfl⟩
theorem gk11 {α : Type} {a b : α} : gK 1 1 [a] [b] = [a, b] := if_pos ⟨rfl, rfl⟩
theorem gk21 {α : Type} {a b c : α} : gK 2 1 [a, b] [c] = [a, b, c] := if_pos ⟨rfl, rfl⟩
theorem gk31 {α : Type} {a b c d : α} : gK 3 1 [a, b, c] [d] = [a, b, c, d] := if_pos ⟨rfl, rfl⟩
@[simp] theorem wipe_nil (en : DEnv) : wipeD en [] = en := id rfl
@[simp] theorem wipe_cons (en : DEnv) (v : Nat) (vs : List Nat) : wipeD en (v :: vs) = (wipeD en vs).set v none := id rfl
end VL
/-! VM2: typed data; what the operations do with them. -/
namespace VL
open PySem PySem.Spec PyProof.Rows L2
class Dat (α : Type) where
  d : α → D
  py : α → PyData
  hpy : ∀ a, (d a).py = some (py a)
  dep : Nat
  hdep : ∀ a, (py a).depth ≤ dep
  dec : DecidableEq α
  eqv : ∀ a b, PyData.eqv (py a) (py b) = decide (a = b)
instance (priority := low) {α : Type} [Dat α] : DecidableEq α := Dat.dec
instance datStr : Dat Str where
  d := .str
  py := .str
  hpy := fun _ => rfl
  dep := 0
  hdep := fun _ => Nat.le_refl _
  dec := inferInstance
  eqv := fun a b => by
    show (a == b) = decide (a = b)
    rfl
instance datInt : Dat Int where
  d := .int
  py := .int
  hpy := fun _ => rfl
  dep := 0
  hdep := fun _ => Nat.le_refl _
  dec := inferInstance
  eqv := fun a b => by
    show (a == b) = decide (a = b)
    rfl
section
variable {α : Type} [Dat α]
theorem pys_map : ∀ xs : List α, pys (xs.map Dat.d) = some (xs.map Dat.py)
  | [] => rfl
  | x :: xs => by
    rw [List.map_cons, List.map_cons]
    simp only [pys, Dat.hpy x, pys_map xs]
theorem depthAll_map : ∀ xs : List α, PyData.depthAll (xs.map Dat.py) ≤ Dat.dep α
  | [] => Nat.zero_le _
  | x :: xs => by
    show max (Dat.py x).depth (PyData.depthAll (xs.map Dat.py)) ≤ _
    exact Nat.max_le.mpr ⟨Dat.hdep x, depthAll_map xs⟩
theorem eqvAll_map : ∀ xs ys : List α, PyData.eqvAll (xs.map Dat.py) (ys.map Dat.py) = decide (xs = ys)
  | [], [] => rfl
  | [], _ :: _ => rfl
  | _ :: _, [] => rfl
  | x :: xs, y :: ys => by
    show (PyData.eqv (Dat.py x) (Dat.py y) && PyData.eqvAll (xs.map Dat.py) (ys.map Dat.py)) = _
    rw [Dat.eqv, eqvAll_map xs ys]
    by_cases h : x = y
    · subst h
      by_cases h2 : xs = ys
      · subst h2; simp
      · simp [h2]
    · simp [h]
end
/-- a list of data as a tuple -/
abbrev tupD {α : Type} [Dat α] (xs : List α) : D := .tup (xs.map Dat.d)
instance datTup {α : Type} [Dat α] : Dat (List α) where
  d := tupD
  py := fun xs => .tuple (xs.map Dat.py)
  hpy := fun xs => by
    show (pys (xs.map Dat.d)).map PyData.tuple = _
    rw [pys_map]
    rfl
  dep := Dat.dep α + 1
  hdep := fun xs => by
    show PyData.depthAll (xs.map Dat.py) + 1 ≤ _
    exact Nat.succ_le_succ (depthAll_map xs)
  dec := inferInstance
  eqv := fun a b => by
    show PyData.eqvAll (a.map Dat.py) (b.map Dat.py) = _
    exact eqvAll_map a b
section
variable {α : Type} [Dat α] {S : Sto} {P : D → Sto → Prop} {PL : List D → Sto → Prop}
theorem pyOf_d (a : α) : pyOf S (Dat.d a) = some (Dat.py a) := by
  have h := Dat.hpy a
  cases e : Dat.d a with
  | cel n => rw [e] at h; simp only [D.py] at h; cases h
  | _ => rw [← e]; rw [← h]; rw [e]; rfl
theorem ret_eq {a b : α} (hd : Dat.dep α ≤ 60) : Ret (mEq (Dat.d a) (Dat.d b) S) P = P (.bl (decide (a = b))) S := by
  unfold mEq
  rw [pyOf_d, pyOf_d]
  simp only [Dat.eqv]
  rw [if_pos]
  · with_unfolding_all rfl
  · have := Dat.hdep a; omega
theorem ret_ne {a b : α} (hd : Dat.dep α ≤ 60) : Ret (mNe (Dat.d a) (Dat.d b) S) P = P (.bl (!decide (a = b))) S := by
  unfold mNe
  rw [pyOf_d, pyOf_d]
  simp only [Dat.eqv]
  rw [if_pos]
  · with_unfolding_all rfl
  · have := Dat.hdep a; omega
theorem any_eqv (x : α) (xs : List α) : ((xs.map Dat.py).any fun y => PyData.eqv y (Dat.py x)) = decide (x ∈ xs) := by
  induction xs with
  | nil => simp
  | cons y ys ih =>
    rw [List.map_cons, List.any_cons, ih, Dat.eqv]
    by_cases h : y = x
    · subst h; simp
    · have h2 : ¬ x = y := fun e => h e.symm
      simp [h, h2]
theorem ret_in {x : α} {xs : List α} (hd : Dat.dep α ≤ 60) : Ret (mIn false (Dat.d x) (tupD xs) S) P = P (.bl (decide (x ∈ xs))) S := by
  unfold mIn
  simp only []
  rw [pyOf_d]
  show Ret (match some (Dat.py x), (pys (xs.map Dat.d)).map PyData.tuple with
    | some p, some (.list ps) => _
    | some p, some (.tuple ps) => _
    | _, _ => _) P = _
  rw [pys_map]
  simp only [Option.map_some, any_eqv]
  rw [if_pos]
  · simp
  · have := Dat.hdep x; omega
theorem ret_notin {x : α} {xs : List α} (hd : Dat.dep α ≤ 60) : Ret (mIn true (Dat.d x) (tupD xs) S) P = P (.bl (!decide (x ∈ xs))) S := by
  unfold mIn
  simp only []
  rw [pyOf_d]
  show Ret (match some (Dat.py x), (pys (xs.map Dat.d)).map PyData.tuple with
    | some p, some (.list ps) => _
    | some p, some (.tuple ps) => _
    | _, _ => _) P = _
  rw [pys_map]
  simp only [Option.map_some, any_eqv]
  rw [if_pos]
  · simp
  · have := Dat.hdep x; omega
theorem place_idx (x : α) : ∀ xs : List α, x ∈ xs → SeqAt.dataPlace (xs.map Dat.py) (Dat.py x) = some (xs.idxOf x)
  | [], h => by simp at h
  | y :: ys, h => by
    unfold SeqAt.dataPlace
    rw [List.map_cons, List.findIdx?_cons, Dat.eqv]
    by_cases e : y = x
    · subst e; simp
    · have h2 : x ∈ ys := by
        rcases List.mem_cons.mp h with z | z
        · exact absurd z.symm e
        · exact z
      have ih := place_idx x ys h2
      unfold SeqAt.dataPlace at ih
      simp only [e, decide_false]
      rw [ih, List.idxOf_cons]
      have e2 : (y == x) = false := beq_eq_false_iff_ne.mpr e
      simp [e2]
theorem ret_index {x : α} {xs : List α} (hd : Dat.dep α ≤ 60) (hl : xs.length ≤ LINE) (hx : x ∈ xs) : Ret (mIndex (tupD xs) [Dat.d x] S) P = P (.int (xs.idxOf x : Nat)) S := by
  unfold mIndex pyFind arg1
  simp only [seqOf, Option.bind_some]
  rw [pyOf_d, pys_map]
  simp only [place_idx x xs hx, Option.map_some, List.length_map]
  rw [if_pos]
  · with_unfolding_all rfl
  · have := Dat.hdep x; exact ⟨by omega, hl⟩
theorem count_eqv (x : α) (xs : List α) : (xs.map Dat.py).countP (fun y => PyData.eqv y (Dat.py x)) = xs.count x := by
  rw [List.countP_map, List.count]
  congr 1
  funext y
  show PyData.eqv (Dat.py y) (Dat.py x) = (y == x)
  rw [Dat.eqv]
  rfl
theorem ret_count {x : α} {xs : List α} (hd : Dat.dep α ≤ 60) (hl : xs.length ≤ LINE) : Ret (mCount (tupD xs) [Dat.d x] S) P = P (.int (xs.count x : Nat)) S := by
  unfold mCount pyFind arg1
  simp only [seqOf, Option.bind_some]
  rw [pyOf_d, pys_map]
  simp only [count_eqv, List.length_map]
  rw [if_pos]
  · with_unfolding_all rfl
  · have := Dat.hdep x; exact ⟨by omega, hl⟩
end
end VL
/-! VM3: the law's drawings. -/
namespace VL
open PySem PySem.Spec PyProof.Rows L2 Sh
section
variable {S : Sto} {P : D → Sto → Prop} {i j : Int} {PE' : DEnv → Sto → Prop}
@[simp] theorem ret_add : Ret (mAdd (.int i) (.int j) S) P = P (.int (i + j)) S := by with_unfolding_all exact id rfl
@[simp] theorem ret_sub : Ret (mSub (.int i) (.int j) S) P = P (.int (i - j)) S := by with_unfolding_all exact id rfl
@[simp] theorem ret_mul : Ret (mMul (.int i) (.int j) S) P = ((i.natAbs < BIG ∧ j.natAbs < BIG) ∧ P (.int (i * j)) S) := by
  unfold mMul mI
  simp only [ret_iteb, ret_ok, Bool.and_eq_true, decide_eq_true_eq]
@[simp] theorem ret_mod : Ret (mMod (.int i) (.int j) S) P = (0 < j ∧ P (.int (i % j)) S) := by
  unfold mMod mI
  simp only [ret_iteb, ret_ok, decide_eq_true_eq]
@[simp] theorem ret_fdiv : Ret (mFdiv (.int i) (.int j) S) P = ((0 < j ∧ j.natAbs < BIG) ∧ P (.int (i / j)) S) := by
  unfold mFdiv mI
  simp only [ret_iteb, ret_ok, Bool.and_eq_true, decide_eq_true_eq]
@[simp] theorem ret_neg : Ret (mNeg (.int i) S) P = P (.int (-i)) S := by with_unfolding_all exact id rfl
@[simp] theorem ret_lt : Ret (mLt (.int i) (.int j) S) P = P (.bl (decide (i < j))) S := by with_unfolding_all exact id rfl
@[simp] theorem ret_le : Ret (mLe (.int i) (.int j) S) P = P (.bl (decide (i ≤ j))) S := by with_unfolding_all exact id rfl
@[simp] theorem ret_gt : Ret (mGt (.int i) (.int j) S) P = P (.bl (decide (j < i))) S := by with_unfolding_all exact id rfl
@[simp] theorem ret_ge : Ret (mGe (.int i) (.int j) S) P = P (.bl (decide (j ≤ i))) S := by with_unfolding_all exact id rfl
@[simp] theorem ret_eqi : Ret (mEq (.int i) (.int j) S) P = P (.bl (decide (i = j))) S := ret_eq (α := Int) (by decide)
@[simp] theorem ret_nei : Ret (mNe (.int i) (.int j) S) P = P (.bl (!decide (i = j))) S := ret_ne (α := Int) (by decide)
@[simp] theorem ret_inti : Ret (mInt [.int i] S) P = P (.int i) S := by with_unfolding_all exact id rfl
@[simp] theorem ret_absi : Ret (mAbs [.int i] S) P = P (.int (if i < 0 then -i else i)) S := by with_unfolding_all exact id rfl
theorem ret_ix_cel {n : Nat} {k : Int} {ws : List D} (h : S[n]? = some (some ws)) : Ret (mIx (.cel n) (.int k) S) P = (match atI ws k with
  | some x => P x S
  | none => False) := by
  unfold mIx
  simp only [seqOf, listOf, h, Option.join_some]
  cases atI ws k <;> with_unfolding_all rfl
theorem ret_set_cel {n : Nat} {k : Int} {ws : List D} {d : D} {en : DEnv} (h : S[n]? = some (some ws)) : Ret (mSet (.cel n) (.int k) d en S) PE' = (match ixN ws.length k with
  | some j => PE' en (S.set n (some (ws.set j d)))
  | none => False) := by
  unfold mSet
  simp only [h, Option.join_some]
  cases ixN ws.length k <;> with_unfolding_all rfl
theorem set_at {n : Nat} {c : Option (List D)} {x : Option (List D)} (h : S[n]? = some x) : (S.set n c)[n]? = some c := List.getElem?_set_self (List.getElem?_eq_some_iff.mp h).1
end
/-- a well behind k draws -/
def Wl (k : Int) (ws : List D) : Prop := ∃ a b c : Int, ws = [.int a, .int b, .int c] ∧ 0 ≤ a ∧ 0 ≤ b ∧ b < 2147483563 ∧ 0 ≤ c ∧ c ≤ k
theorem Wl.mono {k l : Int} {ws : List D} (h : Wl k ws) (hl : k ≤ l) : Wl l ws := by
  obtain ⟨a, b, c, e, h1, h2, h3, h4, h5⟩ := h
  exact ⟨a, b, c, e, h1, h2, h3, h4, by omega⟩
theorem big_of {i : Int} (h : i.natAbs < 2 ^ 200) : i.natAbs < BIG := by
  unfold BIG
  have : (2 : Nat) ^ 200 ≤ 2 ^ 600 := Nat.pow_le_pow_right (by decide) (by decide)
  omega
theorem bigN {i : Nat} (h : i < 2 ^ 200) : i < BIG := big_of (i := (i : Int)) (by simpa using h)
theorem draw_wp {S : Sto} {n : Nat} {ws : List D} {k lim : Int} {Q : D → Sto → Prop} (h : S[n]? = some (some ws)) (hw : Wl k ws) (hk : k < 2 ^ 100) (h0 : 0 < lim) (h1 : lim < 1073741824)
    (q : ∀ (r : Int) (ws' : List D), 0 ≤ r → r < lim → Wl (k + 1) ws' → Q (.int r) (S.set n (some ws'))) : Ret (f_x_law_draw [.cel n, .int lim] S) Q := by
  obtain ⟨a, b, c, rfl, ha, hb, hb2, hc, hck⟩ := hw
  unfold f_x_law_draw
  simp only [ret_fnD, List.length_cons, List.length_nil, List.map_cons, List.map_nil, List.cons_append, List.nil_append]
  unfold s_x_law_draw
  simp [ret_ix_cel h, atI, ixN]
  split
  · rename_i hp
    simp [mDivmod, arg2, tupOf, h0, h1, ret_set_cel h, ixN]
    exact q _ _ (Int.emod_nonneg _ (by omega)) (Int.emod_lt_of_pos _ h0) ⟨_, _, _, rfl, Int.ediv_nonneg ha (by omega), hb, hb2, hc, by omega⟩
  · rename_i hn
    have h' := set_at (c := some [D.int a, D.int b, D.int (c + 1)]) h
    simp [ret_set_cel h, ixN, ret_ix_cel h', atI, ret_set_cel h']
    have hk2 : k + 1 < 2 ^ 101 := by
      have : (2 : Int) ^ 100 + 1 < 2 ^ 101 := by decide
      omega
    have m1 := Int.emod_nonneg (b * 40037 + 13001 * (c + 1) + 7) (show (2147483563 : Int) ≠ 0 by decide)
    have m2 := Int.emod_lt_of_pos (b * 40037 + 13001 * (c + 1) + 7) (show (0 : Int) < 2147483563 by decide)
    generalize (b * 40037 + 13001 * (c + 1) + 7) % 2147483563 = st at m1 m2 ⊢
    have m3 := Int.emod_nonneg st (show (5009 : Int) ≠ 0 by decide)
    have m4 := Int.emod_lt_of_pos st (show (0 : Int) < 5009 by decide)
    refine ⟨⟨big_of ?_, bigN (by decide)⟩, ⟨bigN (by decide), big_of ?_⟩, ⟨big_of ?_, big_of ?_⟩, ?_⟩
    · omega
    · omega
    · omega
    · omega
    · have m5 := Int.emod_nonneg (st * (st % 5009 + 20023) + (c + 1)) (show (2147483563 : Int) ≠ 0 by decide)
      have m6 := Int.emod_lt_of_pos (st * (st % 5009 + 20023) + (c + 1)) (show (0 : Int) < 2147483563 by decide)
      generalize (st * (st % 5009 + 20023) + (c + 1)) % 2147483563 = u at m5 m6 ⊢
      have h2 := set_at (c := some [D.int a, D.int u, D.int (c + 1)]) h
      simp [ret_ix_cel h2, atI, ixN]
      exact ⟨bigN (by decide), h0, q _ _ (Int.emod_nonneg _ (by omega)) (Int.emod_lt_of_pos _ h0) ⟨_, _, _, rfl, ha, m5, m6, by omega, by omega⟩⟩
/-- one of the things, drawn -/
theorem of_wp {S : Sto} {n : Nat} {ws : List D} {k : Int} {d : D} {xs : List D} {Q : D → Sto → Prop} (h : S[n]? = some (some ws)) (hw : Wl k ws) (hk : k < 2 ^ 100) (hd : seqOf S d = some xs ∧ (∀ S', seqOf S' d = some xs) ∧ ∀ z, d ≠ .str z) (h0 : xs ≠ []) (h1 : xs.length < 1073741824)
    (q : ∀ (x : D) (ws' : List D), x ∈ xs → Wl (k + 1) ws' → Q x (S.set n (some ws'))) : Ret (f_x_law_of [.cel n, d] S) Q := by
  unfold f_x_law_of
  simp only [ret_fnD, List.length_cons, List.length_nil, List.map_cons, List.map_nil, List.cons_append, List.nil_append]
  unfold s_x_law_of
  have hl : Ret (mLen [d] S) fun r S1 => S1 = S ∧ r = .int xs.length := by
    unfold mLen arg1 inS
    cases d with
    | str z => exact absurd rfl (hd.2.2 z)
    | _ => simp only [hd.1]; (rw [ret_ok]; exact ⟨rfl, rfl⟩)
  obtain ⟨r, S1, e1, rfl, rfl⟩ := hl.ex
  have hp : 0 < xs.length := List.length_pos_iff.mpr h0
  simp
  rw [e1]
  simp
  refine draw_wp h hw hk (by omega) (by omega) fun r ws' r0 r1 hw' => ?_
  have e2 : ∃ x, atI xs r = some x ∧ x ∈ xs := by
    unfold atI ixN
    rw [if_pos r0, if_pos r1]
    simp only [Option.bind_some]
    have : r.toNat < xs.length := by omega
    exact ⟨xs[r.toNat], List.getElem?_eq_getElem this, List.getElem_mem this⟩
  obtain ⟨x, e3, hx⟩ := e2
  unfold mIx
  cases d with
  | str z => exact absurd rfl (hd.2.2 z)
  | _ => simp only [hd.2.1, e3]; rw [ret_ok]; exact q x ws' hx hw'
/-- a sign of a text, drawn -/
theorem ofs_wp {S : Sto} {n : Nat} {ws : List D} {k : Int} {z : Str} {Q : D → Sto → Prop} (h : S[n]? = some (some ws)) (hw : Wl k ws) (hk : k < 2 ^ 100) (h0 : 0 < z.length) (h1 : z.length < 1000000)
    (q : ∀ (c : Nat) (ws' : List D), c ∈ z.cps.toList → Wl (k + 1) ws' → Q (.str ⟨#[c]⟩) (S.set n (some ws'))) : Ret (f_x_law_of [.cel n, .str z] S) Q := by
  unfold f_x_law_of
  simp only [ret_fnD, List.length_cons, List.length_nil, List.map_cons, List.map_nil, List.cons_append, List.nil_append]
  unfold s_x_law_of
  have hl : mLen [.str z] S = .ok (.int z.length) S := by
    unfold mLen arg1
    exact if_pos (by unfold LINE; omega)
  simp [hl]
  refine draw_wp h hw hk (by omega) (by omega) fun r ws' r0 r1 hw' => ?_
  have hz : z.cps.toList.length = z.length := by simp [Str.length]
  have e2 : ∃ x, atI z.cps.toList r = some x ∧ x ∈ z.cps.toList := by
    unfold atI ixN
    rw [if_pos r0, if_pos (by omega)]
    simp only [Option.bind_some]
    have : r.toNat < z.cps.toList.length := by omega
    exact ⟨_, List.getElem?_eq_getElem this, List.getElem_mem this⟩
  obtain ⟨x, e3, hx⟩ := e2
  unfold mIx
  simp only [e3]
  rw [if_pos (by unfold LINE; omega)]
  rw [ret_ok]; exact q x ws' hx hw'
end VL
/-! VM4: wells, names, shelves, askings. -/
namespace VL
open PySem PySem.Spec PyProof.Rows L2 Sh
section
variable {S : Sto} {P : D → Sto → Prop} {PL : List D → Sto → Prop} {i j k : Int} {PE' : DEnv → Sto → Prop} {ds es : List D} {x y : Str}
@[simp] theorem ret_len_fro : Ret (mLen [.fro ds] S) P = P (.int ds.length) S := by with_unfolding_all exact id rfl
@[simp] theorem ret_len_lst : Ret (mLen [.lst ds] S) P = P (.int ds.length) S := by with_unfolding_all exact id rfl
@[simp] theorem ret_len_tup : Ret (mLen [.tup ds] S) P = P (.int ds.length) S := by with_unfolding_all exact id rfl
@[simp] theorem ret_len_str : Ret (mLen [.str x] S) P = (x.length ≤ LINE ∧ P (.int x.length) S) := by with_unfolding_all exact ret_iteb
theorem ret_ix_any {d : D} (hd : ∀ z, d ≠ .str z) (h : seqOf S d = some ds) : Ret (mIx d (.int k) S) P = (match atI ds k with
  | some x => P x S
  | none => False) := by
  unfold mIx
  cases d with
  | str z => exact absurd rfl (hd z)
  | _ => simp only [h]; cases atI ds k <;> with_unfolding_all rfl
@[simp] theorem ret_ix_fro : Ret (mIx (.fro ds) (.int k) S) P = (match atI ds k with
  | some x => P x S
  | none => False) := ret_ix_any (fun z e => nomatch e) rfl
@[simp] theorem ret_ix_lst : Ret (mIx (.lst ds) (.int k) S) P = (match atI ds k with
  | some x => P x S
  | none => False) := ret_ix_any (fun z e => nomatch e) rfl
@[simp] theorem ret_ix_tup : Ret (mIx (.tup ds) (.int k) S) P = (match atI ds k with
  | some x => P x S
  | none => False) := ret_ix_any (fun z e => nomatch e) rfl
@[simp] theorem ret_sl_tup {lo hi : Option Int} : Ret (mSl (.tup ds) lo hi S) P = P (.tup (cutD ds lo hi)) S := by with_unfolding_all exact id rfl
@[simp] theorem ret_sl_fro {lo hi : Option Int} : Ret (mSl (.fro ds) lo hi S) P = P (.lst (cutD ds lo hi)) S := by with_unfolding_all exact id rfl
@[simp] theorem ret_sl_lst {lo hi : Option Int} : Ret (mSl (.lst ds) lo hi S) P = P (.lst (cutD ds lo hi)) S := by with_unfolding_all exact id rfl
@[simp] theorem ret_iter_tup : Ret (mIter (.tup ds) S) PL = PL ds S := by with_unfolding_all exact id rfl
@[simp] theorem ret_iter_lst : Ret (mIter (.lst ds) S) PL = PL ds S := by with_unfolding_all exact id rfl
@[simp] theorem ret_iter_fro : Ret (mIter (.fro ds) S) PL = PL ds S := by with_unfolding_all exact id rfl
@[simp] theorem ret_seq_tup : Ret (mSeq (.tup ds) S) PL = PL ds S := by with_unfolding_all exact id rfl
@[simp] theorem ret_seq_lst : Ret (mSeq (.lst ds) S) PL = PL ds S := by with_unfolding_all exact id rfl
@[simp] theorem ret_tup : Ret (mTup ds S) P = (ds.length ≤ LINE ∧ P (.tup ds) S) := by with_unfolding_all exact ret_iteb
@[simp] theorem ret_lst : Ret (mLst ds S) P = (ds.length ≤ LINE ∧ P (.lst ds) S) := by with_unfolding_all exact ret_iteb
@[simp] theorem ret_cel : Ret (mCel ds S) P = (ds.length ≤ LINE ∧ P (.cel S.length) (S ++ [some ds])) := by with_unfolding_all exact ret_iteb
@[simp] theorem ret_tuple_tup : Ret (mTuple [.tup ds] S) P = P (.tup ds) S := by with_unfolding_all exact id rfl
@[simp] theorem ret_tuple_lst : Ret (mTuple [.lst ds] S) P = (ds.length ≤ LINE ∧ P (.tup ds) S) := by with_unfolding_all exact ret_iteb
@[simp] theorem ret_list_tup : Ret (mList [.tup ds] S) P = P (.lst ds) S := by with_unfolding_all exact id rfl
@[simp] theorem ret_list_lst : Ret (mList [.lst ds] S) P = P (.lst ds) S := by with_unfolding_all exact id rfl
@[simp] theorem ret_add_str : Ret (mAdd (.str x) (.str y) S) P = (x.length + y.length ≤ LINE ∧ P (.str (x ++ y)) S) := by with_unfolding_all exact ret_iteb
@[simp] theorem ret_add_tup : Ret (mAdd (.tup ds) (.tup es) S) P = (ds.length + es.length ≤ LINE ∧ P (.tup (ds ++ es)) S) := by with_unfolding_all exact ret_iteb
@[simp] theorem ret_add_lst : Ret (mAdd (.lst ds) (.lst es) S) P = (ds.length + es.length ≤ LINE ∧ P (.lst (ds ++ es)) S) := by with_unfolding_all exact ret_iteb
@[simp] theorem ret_pow : Ret (mPow (.int i) (.int j) S) P = ((0 ≤ j ∧ j ≤ 1000) ∧ i.natAbs < 2 ^ 64 ∧ P (.int (i ^ j.toNat)) S) := by
  unfold mPow mI
  simp only [ret_iteb, ret_ok, Bool.and_eq_true, decide_eq_true_eq, and_assoc]
@[simp] theorem ret_live_str : Ret (mLive (.str x) S) (fun _ S => P .non S) = P .non S := by with_unfolding_all exact id rfl
theorem cut_mem {lo hi : Option Int} {d : D} (h : d ∈ cutD ds lo hi) : d ∈ ds := List.mem_of_mem_drop (List.mem_of_mem_take h)
theorem ints_mem {ns : List Int} {d : D} (h : d ∈ ns.map D.int) : ∃ i, d = .int i := by
  obtain ⟨i, _, rfl⟩ := List.mem_map.mp h
  exact ⟨i, rfl⟩
end
theorem well_wp {sc : List D → D} (hsc : sc = D.fro ∨ sc = D.lst) {ns : List Int} {lap : Nat} {S : Sto} {Q : D → Sto → Prop} (hl : lap < 2) (q : ∀ ws, Wl 0 ws → Q (.cel S.length) (S ++ [some ws])) : Ret (f_x_law_well [sc (ns.map D.int), .int lap] S) Q := by
  rcases hsc with rfl | rfl
  · unfold f_x_law_well
    simp only [ret_fnD, List.length_cons, List.length_nil, List.map_cons, List.map_nil, List.cons_append, List.nil_append]
    unfold s_x_law_well
    simp
    refine ⟨⟨bigN (by decide), bigN (by omega)⟩, ?_⟩
    refine for_wp (fun i en st => st = S ∧ ∃ x y, ∃ v : Int, en = [some (.fro (ns.map D.int)), some (.int lap), some (.int v), x, y] ∧ 0 ≤ v ∧ v < 2147483563) _ 0 _ _ ⟨rfl, _, _, _, rfl, by omega, by omega⟩ ?_ ?_
    · rintro i d en st hd ⟨rfl, x, y, v, rfl, h1, h2⟩
      obtain ⟨c, rfl⟩ := ints_mem (cut_mem (List.mem_of_getElem? hd))
      simp
      refine ⟨⟨big_of (by omega), bigN (by decide)⟩, ?_⟩
      exact ⟨_, _, _, ⟨rfl, rfl, rfl⟩, by omega, by omega⟩
    · rintro en st ⟨rfl, x, y, v, rfl, h1, h2⟩
      have fin : ∀ o : Int, v.natAbs < BIG ∧ 41 < BIG → True := fun _ _ => trivial
      have b1 : v.natAbs < BIG := big_of (by omega)
      have b2 : (41 : Nat) < BIG := bigN (by decide)
      have b3 : (15031 : Nat) < BIG := bigN (by decide)
      have b4 : ∀ o : Int, (o % 2147483549).natAbs < BIG := fun o => big_of (by omega)
      have b5 : (3 : Nat) ≤ LINE := by unfold LINE; decide
      have wl : ∀ o u : Int, 0 ≤ o → Wl 0 [.int o, .int (u % 2147483563), .int 0] := fun o u h => ⟨o, _, 0, rfl, h, by omega, by omega, by omega, by omega⟩
      simp
      split
      · rename_i hlt
        have e : atI (ns.map D.int) (lap : Int) = some (.int ns[lap]) := atI_nat (by rw [List.getElem?_map, List.getElem?_eq_getElem hlt]; rfl)
        rw [e]
        simp [b1, b2, b3, b4, b5]
        split
        · exact q _ (wl _ _ (by omega))
        · split
          · exact q _ (wl _ _ (by omega))
          · exact q _ (wl _ _ (by omega))
      · simp [b1, b2, b3, b4, b5]
        exact ⟨bigN (by decide), q _ (wl _ _ (by omega))⟩
  · unfold f_x_law_well
    simp only [ret_fnD, List.length_cons, List.length_nil, List.map_cons, List.map_nil, List.cons_append, List.nil_append]
    unfold s_x_law_well
    simp
    refine ⟨⟨bigN (by decide), bigN (by omega)⟩, ?_⟩
    refine for_wp (fun i en st => st = S ∧ ∃ x y, ∃ v : Int, en = [some (.lst (ns.map D.int)), some (.int lap), some (.int v), x, y] ∧ 0 ≤ v ∧ v < 2147483563) _ 0 _ _ ⟨rfl, _, _, _, rfl, by omega, by omega⟩ ?_ ?_
    · rintro i d en st hd ⟨rfl, x, y, v, rfl, h1, h2⟩
      obtain ⟨c, rfl⟩ := ints_mem (cut_mem (List.mem_of_getElem? hd))
      simp
      refine ⟨⟨big_of (by omega), bigN (by decide)⟩, ?_⟩
      exact ⟨_, _, _, ⟨rfl, rfl, rfl⟩, by omega, by omega⟩
    · rintro en st ⟨rfl, x, y, v, rfl, h1, h2⟩
      have fin : ∀ o : Int, v.natAbs < BIG ∧ 41 < BIG → True := fun _ _ => trivial
      have b1 : v.natAbs < BIG := big_of (by omega)
      have b2 : (41 : Nat) < BIG := bigN (by decide)
      have b3 : (15031 : Nat) < BIG := bigN (by decide)
      have b4 : ∀ o : Int, (o % 2147483549).natAbs < BIG := fun o => big_of (by omega)
      have b5 : (3 : Nat) ≤ LINE := by unfold LINE; decide
      have wl : ∀ o u : Int, 0 ≤ o → Wl 0 [.int o, .int (u % 2147483563), .int 0] := fun o u h => ⟨o, _, 0, rfl, h, by omega, by omega, by omega, by omega⟩
      simp
      split
      · rename_i hlt
        have e : atI (ns.map D.int) (lap : Int) = some (.int ns[lap]) := atI_nat (by rw [List.getElem?_map, List.getElem?_eq_getElem hlt]; rfl)
        rw [e]
        simp [b1, b2, b3, b4, b5]
        split
        · exact q _ (wl _ _ (by omega))
        · split
          · exact q _ (wl _ _ (by omega))
          · exact q _ (wl _ _ (by omega))
      · simp [b1, b2, b3, b4, b5]
        exact ⟨bigN (by decide), q _ (wl _ _ (by omega))⟩
/-! ### a well and a list that grows -/
section
variable {S : Sto} {n : Nat} {c d : Option (List D)}
theorem app_at (h : n < S.length) : (S.set n c ++ [d])[n]? = some c := by
  rw [List.getElem?_append_left (by simpa using h), List.getElem?_set_self h]
theorem app_last : (S.set n c ++ [d])[S.length]? = some d := by
  rw [List.getElem?_append_right (by simp), List.length_set, Nat.sub_self]
  rfl
theorem app_set (h : n < S.length) {c' : Option (List D)} : (S.set n c ++ [d]).set n c' = S.set n c' ++ [d] := by
  rw [List.set_append_left _ _ (by simpa using h), List.set_set]
theorem app_set2 {d' : Option (List D)} : (S.set n c ++ [d]).set S.length d' = S.set n c ++ [d'] := by
  rw [List.set_append_right _ _ (by simp), List.length_set, Nat.sub_self]
  rfl
end
/-! ### names -/
def okC (c : Nat) : Prop := 97 ≤ c ∧ c ≤ 122
def Nm (z : Str) : Prop := (∀ c ∈ z.cps.toList, okC c) ∧ 1 ≤ z.length ∧ z.length ≤ 8 ∧ z ∉ c_WORDS
def letters : Str := "abcdefghijklmnopqrstuvwxyz"
theorem letters_at : ∀ k : Nat, k < 26 → letters.cps.toList[k]? = some (97 + k) := by decide +kernel
theorem letters_len : letters.length = 26 := by decide +kernel
theorem letters_ok : ∀ c ∈ letters.cps.toList, okC c := by
  unfold okC
  decide +kernel
theorem words_split : Txt.split (Str.ofString "ahead all as ask at behind book by code cost end first fixed front in is last leave never next none of") (Str.ofString " ") ++ Txt.split (Str.ofString "order place put shelf step take times to undo with") (Str.ofString " ") = c_WORDS := by decide +kernel
theorem words_noq : ∀ k : Nat, k < 26 → ((Str.ofString "q" ++ ⟨#[97 + k]⟩ : Str)) ∉ c_WORDS := by decide +kernel
theorem str_len_app (x y : Str) : (x ++ y).length = x.length + y.length := by
  show (x.cps ++ y.cps).size = _
  rw [Array.size_append]
  rfl
theorem str_cps_app (x y : Str) : (x ++ y).cps.toList = x.cps.toList ++ y.cps.toList := by
  show (x.cps ++ y.cps).toList = _
  rw [Array.toList_append]
def lastC (z : Str) : Option Nat := z.cps.toList.getLast?
theorem str_last_app (x : Str) (c : Nat) : lastC (x ++ (⟨#[c]⟩ : Str)) = some c := by
  unfold lastC
  rw [str_cps_app]
  simp
section
variable {S : Sto} {P : D → Sto → Prop} {PU : Unit → Sto → Prop} {x y : Str} {ds : List D} {n : Nat}
@[simp] theorem live_str : Ret (mLive (.str x) S) PU = PU () S := by with_unfolding_all exact id rfl
@[simp] theorem live_lst : Ret (mLive (.lst ds) S) PU = PU () S := by with_unfolding_all exact id rfl
@[simp] theorem live_tup : Ret (mLive (.tup ds) S) PU = PU () S := by with_unfolding_all exact id rfl
@[simp] theorem live_fro : Ret (mLive (.fro ds) S) PU = PU () S := by with_unfolding_all exact id rfl
theorem live_cel (h : S[n]? = some (some ds)) : Ret (mLive (.cel n) S) PU = PU () S := by
  unfold mLive
  simp only [h, Option.join_some]
  rw [ret_ok]
@[simp] theorem kd_str : kdOf (.str x) = some .str := by with_unfolding_all exact id rfl
@[simp] theorem kd_lst : kdOf (.lst ds) = some .lst := by with_unfolding_all exact id rfl
@[simp] theorem kd_tup : kdOf (.tup ds) = some .tup := by with_unfolding_all exact id rfl
@[simp] theorem kd_cel : kdOf (.cel n) = some .lst := by with_unfolding_all exact id rfl
@[simp] theorem g_str : gStr .str = true := by with_unfolding_all exact id rfl
@[simp] theorem g_lst : gLst .lst = true := by with_unfolding_all exact id rfl
@[simp] theorem g_seq1 : gSeq .lst = true := by with_unfolding_all exact id rfl
@[simp] theorem g_seq2 : gSeq .tup = true := by with_unfolding_all exact id rfl
@[simp] theorem ret_split : Ret (mSplit (.str x) [.str y] S) P = (((y.length == 0) = false ∧ x.length + 2 ≤ LINE) ∧ P (.lst ((Txt.split x y).map D.str)) S) := by with_unfolding_all exact ret_iteb
theorem ret_append {d : D} (h : S[n]? = some (some ds)) : Ret (mAppend (.cel n) [d] S) P = (ds.length < LINE ∧ P .non (S.set n (some (ds ++ [d])))) := by
  unfold mAppend arg1
  simp only [h, Option.join_some, ret_iteb, ret_ok]
theorem ret_in_lst {xs : List Str} : Ret (mIn false (.str x) (.lst (xs.map D.str)) S) P = P (.bl (decide (x ∈ xs))) S := by
  have h := any_eqv x xs
  have h2 := pys_map xs
  have h3 := depthAll_map xs
  unfold mIn
  simp only [pyOf, D.py]
  have e : pys (xs.map D.str) = some (xs.map Dat.py) := h2
  rw [e]
  simp only [Option.map_some]
  rw [if_pos (by
    have : (PyData.str x).depth = 0 := rfl
    rw [this]; omega)]
  rw [ret_ok]
  show P (.bl ((xs.map Dat.py).any fun y => PyData.eqv y (Dat.py x))) S = _
  rw [h]
theorem ret_ix_str {k : Nat} {c : Nat} (h : x.cps.toList[k]? = some c) (hl : x.length ≤ LINE) : Ret (mIx (.str x) (.int k) S) P = P (.str ⟨#[c]⟩) S := by
  unfold mIx
  simp only [atI_nat h]
  rw [if_pos hl]
  rw [ret_ok]
theorem ret_range {PL : List D → Sto → Prop} {m : Nat} (h : m < 1000000000) : Ret (mRange1 [.int m] S) PL = PL ((List.range m).map fun i => D.int (i : Nat)) S := by
  unfold mRange1
  simp only []
  rw [if_pos (by constructor <;> omega)]
  rw [ret_ok]
  show PL (nums 0 (m : Int).toNat) S = _
  unfold nums
  simp
theorem range_get {m i : Nat} {d : D} (h : ((List.range m).map fun i => D.int (i : Nat))[i]? = some d) : i < m ∧ d = .int (i : Nat) := by
  rw [List.getElem?_map, Option.map_eq_some_iff] at h
  obtain ⟨j, h1, rfl⟩ := h
  have hi := (List.getElem?_eq_some_iff.mp h1).1
  rw [List.length_range] at hi
  rw [List.getElem?_range hi] at h1
  cases h1
  exact ⟨hi, rfl⟩
end
theorem line_big {n : Nat} (h : n ≤ 10000000) : n ≤ LINE := by unfold LINE; omega
theorem nm_app {z : Str} {k : Nat} (hz : ∀ c ∈ z.cps.toList, okC c) (hl : z.length ≤ 7) (hk : k < 26) (hw : z ++ (⟨#[97 + k]⟩ : Str) ∉ c_WORDS) : Nm (z ++ ⟨#[97 + k]⟩) := by
  refine ⟨fun c hc => ?_, ?_, ?_, hw⟩
  · rw [str_cps_app] at hc
    rcases List.mem_append.mp hc with h | h
    · exact hz c h
    · have : c = 97 + k := by simpa using h
      unfold okC; omega
  · rw [str_len_app]; show 1 ≤ z.length + 1; omega
  · rw [str_len_app]; show z.length + 1 ≤ 8; omega
theorem names_wp {S : Sto} {n : Nat} {ws : List D} {k : Int} {many : Nat} {Q : D → Sto → Prop} (h : S[n]? = some (some ws)) (hw : Wl k ws) (hk : k + 1000 < 2 ^ 100) (hm : many ≤ 7)
    (q : ∀ (xs : List Str) (ws' : List D), xs.length = many → xs.Nodup → (∀ x ∈ xs, Nm x) → Wl (k + 100) ws' → Q (.tup (xs.map D.str)) (S.set n (some ws') ++ [none])) : Ret (f_x_law_names [.cel n, .int many] S) Q := by
  have hn : n < S.length := (List.getElem?_eq_some_iff.mp h).1
  unfold f_x_law_names
  simp only [ret_fnD, List.length_cons, List.length_nil, List.map_cons, List.map_nil, List.cons_append, List.nil_append]
  unfold s_x_law_names
  have z0 : (0 : Nat) ≤ LINE := Nat.zero_le _
  have eS : S.set n (some ws) = S := by
    apply List.ext_getElem?
    intro j
    by_cases hj : n = j
    · subst hj; rw [List.getElem?_set_self hn, h]
    · rw [List.getElem?_set_ne hj]
  simp [z0]
  refine ⟨⟨by decide +kernel, line_big (by decide +kernel)⟩, ⟨by decide +kernel, line_big (by decide +kernel)⟩, line_big (by decide +kernel), ?_⟩
  rw [ret_range (by omega), ← List.map_append, words_split]
  refine for_wp (fun i en st => ∃ (xs : List Str) (ws' : List D) (a b c : Option D), en = [some (.cel n), some (.int many), some (.lst (c_WORDS.map D.str)), a, some (.cel S.length), some (.str letters), b, c] ∧ st = S.set n (some ws') ++ [some (xs.map D.str)] ∧ Wl (k + 8 * i) ws' ∧ xs.length = i ∧
    ∀ j x, xs[j]? = some x → Nm x ∧ lastC x = some (97 + j)) _ 0 _ _ ⟨[], ws, none, none, none, rfl, by rw [eS]; rfl, by simpa using hw, rfl, fun j x e => by simp at e⟩ ?_ ?_
  · rintro i d en st hd ⟨xs, ws', a, b, c, rfl, rfl, hw', hx, hxs⟩
    obtain ⟨hi, rfl⟩ := range_get hd
    have hi26 : i < 26 := by omega
    rw [Nat.zero_add] at hw' hx ⊢
    simp
    refine ⟨line_big (by decide), ?_⟩
    refine of_wp (app_at hn) hw' (by omega) ⟨rfl, fun _ => rfl, fun z e => nomatch e⟩ (by simp) (by decide) fun d ws2 hdm hw2 => ?_
    obtain ⟨m, rfl, hm7⟩ : ∃ m : Nat, d = .int m ∧ m ≤ 7 := by
      simp at hdm
      rcases hdm with e | e | e | e | e
      · exact ⟨0, e, by decide⟩
      · exact ⟨1, e, by decide⟩
      · exact ⟨2, e, by decide⟩
      · exact ⟨3, e, by decide⟩
      · exact ⟨7, e, by decide⟩
    rw [ret_range (by omega), app_set hn]
    refine for_wp (fun j en st => ∃ (ws3 : List D) (z : Str) (e : Option D), en = [some (.cel n), some (.int many), some (.lst (c_WORDS.map D.str)), some (.int i), some (.cel S.length), some (.str letters), some (.str z), e] ∧ st = S.set n (some ws3) ++ [some (xs.map D.str)] ∧ Wl (k + 8 * i + 1 + j) ws3 ∧ z.length = j ∧ ∀ c ∈ z.cps.toList, okC c) _ 0 _ _ ⟨ws2, "", c, rfl, rfl, by simpa using hw2, rfl, fun c hc => absurd hc (by simp [show (Str.ofString "").cps = #[] from rfl])⟩ ?_ ?_
    · rintro j d en st hd2 ⟨ws3, z, e, rfl, rfl, hw3, hz, hzc⟩
      obtain ⟨hj, rfl⟩ := range_get hd2
      rw [Nat.zero_add] at hw3 hz ⊢
      simp
      refine ofs_wp (app_at hn) hw3 (by omega) (by rw [letters_len]; decide) (by rw [letters_len]; decide) fun c ws4 hc hw4 => ?_
      rw [app_set hn]
      simp
      refine ⟨line_big ?_, ws4, rfl, ?_, ?_, ?_⟩
      · show z.length + 1 ≤ _; omega
      · have e1 : k + 8 * (i : Int) + 1 + (j : Int) + 1 = k + 8 * (i : Int) + 1 + ((j : Int) + 1) := by omega
        first | exact e1 ▸ hw4 | (rw [← e1]; exact hw4)
      · rw [str_len_app]; show z.length + 1 = _; omega
      · intro c' hc'
        have hc' : c' ∈ (z ++ (⟨#[c]⟩ : Str)).cps.toList := by simpa using hc'
        rw [str_cps_app] at hc'
        rcases List.mem_append.mp hc' with h1 | h1
        · exact hzc c' h1
        · have : c' = c := by simpa using h1
          rw [this]; exact letters_ok c hc
    · rintro en st ⟨ws3, z, e, rfl, rfl, hw3, hz, hzc⟩
      rw [Nat.zero_add, List.length_map, List.length_range] at hw3 hz
      simp
      rw [ret_ix_str (letters_at i hi26) (by rw [letters_len]; exact line_big (by decide))]
      simp
      have push : ∀ y : Str, Nm y → lastC y = some (97 + i) → (List.length (xs.map D.str) < LINE ∧ ∃ xs2 ws2, (S.set n (some ws3) ++ [some (xs.map D.str)]).set S.length (some (xs.map D.str ++ [D.str y])) = S.set n (some ws2) ++ [some (List.map D.str xs2)] ∧ Wl (k + 8 * ((i : Int) + 1)) ws2 ∧ xs2.length = i + 1 ∧ ∀ (j : Nat) (x : Str), xs2[j]? = some x → Nm x ∧ lastC x = some (97 + j)) := fun y hy hl => by
        refine ⟨by rw [List.length_map]; unfold LINE; omega, xs ++ [y], ws3, ?_, hw3.mono (by omega), by rw [List.length_append, hx]; rfl, fun j x hj => ?_⟩
        · rw [app_set2, List.map_append]; rfl
        · by_cases hjl : j < xs.length
          · rw [List.getElem?_append_left hjl] at hj
            exact hxs j x hj
          · rw [List.getElem?_append_right (by omega)] at hj
            have hj0 : j = i := by
              have := (List.getElem?_eq_some_iff.mp hj).1
              rw [List.length_singleton] at this
              omega
            subst hj0
            rw [hx, Nat.sub_self] at hj
            cases hj
            exact ⟨hy, hl⟩
      refine ⟨line_big ?_, ?_⟩
      · show z.length + 1 ≤ _; omega
      · rw [live_cel app_last, ret_in_lst]
        simp
        split
        · rename_i hin
          rw [ret_ix_str (letters_at i hi26) (by rw [letters_len]; exact line_big (by decide))]
          simp
          refine ⟨line_big (show 1 + 1 ≤ 10000000 by decide), ?_⟩
          rw [ret_append app_last]
          have hq : ∀ c ∈ (Str.ofString "q").cps.toList, okC c := fun c hc => by
            have : c = 113 := by simpa [show (Str.ofString "q").cps = #[113] from rfl] using hc
            unfold okC
            omega
          exact push _ (nm_app hq (by decide) hi26 (words_noq i hi26)) (str_last_app _ _)
        · rename_i hin
          rw [ret_append app_last]
          exact push _ (nm_app hzc (by omega) hi26 hin) (str_last_app _ _)
  · rintro en st ⟨xs, ws', a, b, c, rfl, rfl, hw', hx, hxs⟩
    rw [Nat.zero_add, List.length_map, List.length_range] at hw' hx
    simp [app_last, app_set2]
    refine ⟨line_big (by omega), q xs ws' hx ?_ (fun x hx2 => ?_) (hw'.mono (by omega))⟩
    · refine List.pairwise_iff_getElem.mpr fun i j hi hj hij e => ?_
      have h1 := (hxs i xs[i] (List.getElem?_eq_getElem hi)).2
      have h2 := (hxs j xs[j] (List.getElem?_eq_getElem hj)).2
      rw [e, h2] at h1
      have := Option.some.inj h1
      omega
    · obtain ⟨j, hj⟩ := List.mem_iff_getElem?.mp hx2
      exact (hxs j x hj).1
end VL
local macro_rules | `(tactic| walk_at "wp") => `(tactic| simp only [VL.ret_ok, VL.ret_pure, VL.ret_bind, VL.ret_var, VL.ret_c, VL.ret_e1, VL.ret_e2, VL.ret_nil, VL.ret_cons, VL.ret_star, VL.ret_call, VL.ret_callK, VL.ret_margs, VL.ret_tst, VL.ret_mbool, VL.ret_andm, VL.ret_orm, VL.ret_notm, VL.ret_if, VL.ret_andv, VL.ret_orv, VL.ret_notv, VL.ret_chain, VL.ret_onone, VL.ret_osome, VL.ret_sl, VL.ret_comp, VL.ret_compC, VL.ret_yes, VL.ret_iseq, VL.ret_irange1, VL.ret_irange2, VL.ret_ienum, VL.ret_izip, VL.ret_gN, VL.ret_gsnil, VL.ret_gscons, VL.ret_gT, VL.ret_gIx, VL.ret_methL, VL.ret_callG, VL.ret_fnD, VL.w_seq, VL.w_nil, VL.w_bad, VL.w_brk, VL.w_ret, VL.w_retN, VL.w_drop, VL.w_if, VL.w_asg, VL.w_par, VL.w_par3, VL.w_fz, VL.w_for, VL.ret_add, VL.ret_sub, VL.ret_mul, VL.ret_mod, VL.ret_fdiv, VL.ret_neg, VL.ret_lt, VL.ret_le, VL.ret_gt, VL.ret_ge, VL.ret_eqi, VL.ret_nei, VL.ret_inti, VL.ret_absi, VL.ret_len_fro, VL.ret_len_lst, VL.ret_len_tup, VL.ret_len_str, VL.ret_ix_fro, VL.ret_ix_lst, VL.ret_ix_tup, VL.ret_sl_tup, VL.ret_sl_fro, VL.ret_sl_lst, VL.ret_iter_tup, VL.ret_iter_lst, VL.ret_iter_fro, VL.ret_seq_tup, VL.ret_seq_lst, VL.ret_tup, VL.ret_lst, VL.ret_cel, VL.ret_tuple_tup, VL.ret_tuple_lst, VL.ret_list_tup, VL.ret_list_lst, VL.ret_add_str, VL.ret_add_tup, VL.ret_add_lst, VL.ret_pow, VL.live_str, VL.live_lst, VL.live_tup, VL.live_fro, VL.kd_str, VL.kd_lst, VL.kd_tup, VL.kd_cel, VL.g_str, VL.g_lst, VL.g_seq1, VL.g_seq2, VL.ret_split, VL.wipe_nil, VL.wipe_cons, VL.tupOf, VL.gk01, VL.gk02, VL.gk11, VL.gk21, VL.gk31, List.length_cons, List.length_nil, List.map_cons, List.map_nil, List.cons_append, List.nil_append, List.getElem?_cons_zero, List.getElem?_cons_succ, List.set_cons_zero, List.set_cons_succ, List.length_map, List.length_append, List.replicate_succ, List.replicate_zero, Nat.reduceSub, Nat.reduceAdd, Nat.zero_add, if_true, if_false, true_and, and_true, reduceCtorEq, Bool.false_eq_true, reduceIte, Bool.not_true, Bool.not_false, decide_eq_true_eq, Bool.not_eq_true', decide_eq_false_iff_not])
/-! VM5: shuffled things, shelves, askings. -/
namespace VL
open PySem PySem.Spec PyProof.Rows L2 Sh
section
variable {α : Type} [Dat α]
theorem mem_d {L : List α} {d : D} (h : d ∈ L.map Dat.d) : ∃ a ∈ L, d = Dat.d a := by
  obtain ⟨a, ha, e⟩ := List.mem_map.mp h
  exact ⟨a, ha, e.symm⟩
theorem perm_filter {L : List α} (hn : L.Nodup) {a : α} (ha : a ∈ L) : L.Perm (a :: L.filter fun x => !decide (x = a)) := by
  induction L with
  | nil => simp at ha
  | cons b L ih =>
    have hb := List.nodup_cons.mp hn
    by_cases e : b = a
    · subst e
      have : (b :: L).filter (fun x => !decide (x = b)) = L := by
        rw [List.filter_cons_of_neg (by simp)]
        exact List.filter_eq_self.mpr fun x hx => by
          have : ¬ x = b := fun z => hb.1 (z ▸ hx)
          simp [this]
      rw [this]
    · have h2 : a ∈ L := by
        rcases List.mem_cons.mp ha with z | z
        · exact absurd z.symm e
        · exact z
      rw [List.filter_cons_of_pos (by simp [e])]
      exact ((ih hb.2 h2).cons b).trans (List.Perm.swap a b _)
theorem shuffled_wp {S : Sto} {n : Nat} {ws : List D} {k : Int} {xs : List α} {Q : D → Sto → Prop} (hd : Dat.dep α ≤ 60) (h : S[n]? = some (some ws)) (hw : Wl k ws) (hk : k + 1000 < 2 ^ 100) (hx : xs.Nodup) (hl : xs.length ≤ 100)
    (q : ∀ (ys : List α) (ws' : List D), ys.Perm xs → Wl (k + 100) ws' → Q (tupD ys) (S.set n (some ws'))) : Ret (f_x_law_shuffled [.cel n, tupD xs] S) Q := by
  have hn : n < S.length := (List.getElem?_eq_some_iff.mp h).1
  have eS : S.set n (some ws) = S := by
    apply List.ext_getElem?
    intro j
    by_cases hj : n = j
    · subst hj; rw [List.getElem?_set_self hn, h]
    · rw [List.getElem?_set_ne hj]
  unfold f_x_law_shuffled s_x_law_shuffled
  walk_at "wp"
  refine ⟨Nat.zero_le _, ?_⟩
  rw [ret_range (by omega)]
  refine for_wp (fun i en st => ∃ (F L : List α) (ws' : List D) (a b c : Option D), en = [some (.cel n), some (tupD xs), a, some (.lst (L.map Dat.d)), some (tupD F), b, c] ∧ st = S.set n (some ws') ∧ Wl (k + i) ws' ∧ (F ++ L).Perm xs ∧ F.length = i) _ 0 _ _ ⟨[], xs, ws, none, none, none, rfl, eS.symm, by simpa using hw, by simp, rfl⟩ ?_ ?_
  · rintro i d en st hd2 ⟨F, L, ws', a, b, c, rfl, rfl, hw', hp, hF⟩
    obtain ⟨hi, rfl⟩ := range_get hd2
    rw [Nat.zero_add] at hw' hF ⊢
    have hlen := hp.length_eq
    rw [List.length_append] at hlen
    have hnd : (F ++ L).Nodup := hp.nodup_iff.mpr hx
    have hndL : L.Nodup := (List.nodup_append.mp hnd).2.1
    walk_at "wp"
    refine of_wp (List.getElem?_set_self hn) hw' (by omega) ⟨rfl, fun _ => rfl, fun z e => nomatch e⟩ (by simp; intro z; subst z; simp at hlen; omega) (by rw [List.length_map]; omega) fun d ws2 hdm hw2 => ?_
    obtain ⟨x, hxL, rfl⟩ := mem_d hdm
    refine ⟨line_big (by decide), line_big (by omega), ?_⟩
    refine comp_pure (enc := Dat.d) (p := fun y => !decide (y = x)) (k := Dat.d) (fun y hy => ?_) (line_big (by omega)) ?_
    · walk_at "wp"
      rw [ret_ne hd]
      walk_at "wp"
      exact fun _ => trivial
    · refine ⟨F ++ [x], L.filter fun y => !decide (y = x), ws2, some (.int i), some (Dat.d x), c, by simp [tupD], by rw [List.set_set], ?_, ?_, by simp [hF]⟩
      · have e1 : k + (i : Int) + 1 = k + ((i + 1 : Nat) : Int) := by omega
        exact e1 ▸ hw2
      · rw [List.append_assoc]
        exact ((perm_filter hndL hxL).symm.append_left F).trans hp
  · rintro en st ⟨F, L, ws', a, b, c, rfl, rfl, hw', hp, hF⟩
    rw [Nat.zero_add, List.length_map, List.length_range] at hw' hF
    have hlen := hp.length_eq
    rw [List.length_append] at hlen
    have hL : L = [] := List.eq_nil_of_length_eq_zero (by omega)
    subst hL
    rw [List.append_nil] at hp
    walk_at "wp"
    exact q F ws' hp (hw'.mono (by omega))
end
end VL
/-! VM6: shelves, askings, led. -/
namespace VL
open PySem PySem.Spec PyProof.Rows L2 Sh
/-- a shelf: names, no two alike -/
def Shelf (xs : List Str) : Prop := xs.Nodup ∧ ∀ x ∈ xs, Nm x
theorem Shelf.perm {xs ys : List Str} (h : Shelf xs) (p : ys.Perm xs) : Shelf ys := ⟨p.nodup_iff.mpr h.1, fun x hx => h.2 x (p.mem_iff.mp hx)⟩
theorem strs_tup (xs : List Str) : D.tup (xs.map D.str) = tupD xs := rfl
theorem str_d (x : Str) : D.str x = Dat.d x := rfl
/-- a store behind a step: the well alone has changed, dead lists were added -/
def Grown (S : Sto) (n : Nat) (ws : List D) (S' : Sto) : Prop := ∃ j, S' = S.set n (some ws) ++ List.replicate j none
theorem shuffled_str {S : Sto} {n : Nat} {ws : List D} {k : Int} {xs : List Str} {Q : D → Sto → Prop} (h : S[n]? = some (some ws)) (hw : Wl k ws) (hk : k + 1000 < 2 ^ 100) (hx : xs.Nodup) (hl : xs.length ≤ 100)
    (q : ∀ (ys : List Str) (ws' : List D), ys.Perm xs → Wl (k + 100) ws' → Q (tupD ys) (S.set n (some ws'))) : Ret (f_x_law_shuffled [.cel n, tupD xs] S) Q :=
  shuffled_wp (α := Str) (Nat.zero_le _) h hw hk hx hl q
theorem shelf_wp {S : Sto} {n : Nat} {ws : List D} {k : Int} {lo hi : Nat} {Q : D → Sto → Prop} (h : S[n]? = some (some ws)) (hw : Wl k ws) (hk : k + 10000 < 2 ^ 100) (h1 : lo ≤ hi) (h2 : hi ≤ 7)
    (q : ∀ (xs : List Str) (ws' : List D), Shelf xs → lo ≤ xs.length → xs.length ≤ hi → Wl (k + 300) ws' → Q (tupD xs) (S.set n (some ws') ++ [none])) : Ret (f_x_law_shelf [.cel n, .int lo, .int hi] S) Q := by
  have hn : n < S.length := (List.getElem?_eq_some_iff.mp h).1
  unfold f_x_law_shelf s_x_law_shelf
  walk_at "wp"
  refine draw_wp h hw (by omega) (by omega) (by omega) fun r ws1 r0 r1 hw1 => ?_
  obtain ⟨m, rfl⟩ : ∃ m : Nat, r = m := ⟨r.toNat, by omega⟩
  have hs1 := set_at (c := some ws1) h
  walk_at "wp"
  rw [show (lo : Int) + (m : Int) = ((lo + m : Nat) : Int) by omega]
  refine names_wp hs1 hw1 (by omega) (by omega) fun xs ws2 hx hnd hnm hw2 => ?_
  rw [List.set_set]
  have hs2 : (S.set n (some ws2) ++ [none])[n]? = some (some ws2) := app_at hn
  show Ret (f_x_law_shuffled [.cel n, tupD xs] _) _
  refine shuffled_str hs2 hw2 (by omega) hnd (by omega) fun ys ws3 hp hw3 => ?_
  rw [app_set hn]
  have hl := hp.length_eq
  exact q ys ws3 (Shelf.perm ⟨hnd, hnm⟩ hp) (by omega) (by omega) (hw3.mono (by omega))
theorem askings_wp {S : Sto} {n : Nat} {ws : List D} {k : Int} {most : Nat} {xs : List Str} {Q : D → Sto → Prop} (h : S[n]? = some (some ws)) (hw : Wl k ws) (hk : k + 10000 < 2 ^ 100) (hm : most ≤ 100) (h0 : xs ≠ []) (hl : xs.length ≤ 100)
    (q : ∀ (ys : List Str) (ws' : List D), ys.length ≤ most → (∀ y ∈ ys, y ∈ xs) → Wl (k + 200) ws' → Q (tupD ys) (S.set n (some ws'))) : Ret (f_x_law_askings [.cel n, tupD xs, .int most] S) Q := by
  have hn : n < S.length := (List.getElem?_eq_some_iff.mp h).1
  unfold f_x_law_askings s_x_law_askings
  walk_at "wp"
  refine draw_wp h hw (by omega) (by omega) (by omega) fun r ws1 r0 r1 hw1 => ?_
  obtain ⟨m, rfl⟩ : ∃ m : Nat, r = m := ⟨r.toNat, by omega⟩
  rw [ret_range (by omega)]
  refine comp_wp (fun i acc st => ∃ (ys : List Str) (ws2 : List D), acc = ys.map D.str ∧ st = S.set n (some ws2) ∧ ys.length = i ∧ Wl (k + 1 + i) ws2 ∧ ∀ y ∈ ys, y ∈ xs) _ 0 _ _ ⟨[], ws1, rfl, rfl, rfl, by simpa using hw1, by simp⟩ ?_ ?_
  · rintro i d acc st hd ⟨ys, ws2, rfl, rfl, hy, hw2, hys⟩
    obtain ⟨hi, rfl⟩ := range_get hd
    rw [Nat.zero_add] at hy hw2 ⊢
    walk_at "wp"
    refine of_wp (List.getElem?_set_self hn) hw2 (by omega) ⟨rfl, fun _ => rfl, fun z e => nomatch e⟩ (by simpa using h0) (by rw [List.length_map]; omega) fun d ws3 hdm hw3 => ?_
    obtain ⟨x, hx, rfl⟩ := mem_d hdm
    refine ⟨by unfold LINE; omega, ys ++ [x], ws3, by rw [List.map_append]; rfl, by rw [List.set_set], by simp [hy], ?_, ?_⟩
    · have e1 : k + 1 + (i : Int) + 1 = k + 1 + ((i + 1 : Nat) : Int) := by omega
      exact e1 ▸ hw3
    · intro y hy2
      rcases List.mem_append.mp hy2 with z | z
      · exact hys y z
      · rw [List.mem_singleton.mp z]; exact hx
  · rintro acc st ⟨ys, ws2, rfl, rfl, hy, hw2, hys⟩
    rw [Nat.zero_add, List.length_map, List.length_range] at hy hw2
    walk_at "wp"
    exact ⟨line_big (by omega), q ys ws2 (by omega) hys (hw2.mono (by omega))⟩
/-- asked: to the front -/
def front (xs : List Str) (b : Str) : List Str := b :: xs.filter fun x => !decide (x = b)
theorem asked_wp {S : Sto} {xs : List Str} {b : Str} {Q : D → Sto → Prop} (hl : xs.length ≤ 1000) (q : Q (tupD (front xs b)) S) : Ret (f_x_law_asked [tupD xs, .str b] S) Q := by
  unfold f_x_law_asked s_x_law_asked
  walk_at "wp"
  refine ⟨line_big (by decide), ?_⟩
  have hf := List.length_filter_le (fun y => !decide (y = b)) xs
  refine comp_pure (enc := Dat.d) (p := fun y => !decide (y = b)) (k := Dat.d) (fun y hy => ?_) (line_big (by omega)) ?_
  · walk_at "wp"
    rw [show D.str b = Dat.d b from rfl, ret_ne (α := Str) (by decide)]
    walk_at "wp"
    exact fun _ => trivial
  · walk_at "wp"
    exact ⟨line_big (by omega), line_big (by omega), q⟩
def led (xs : List Str) : List Str → List Str
  | [] => xs
  | b :: bs => led (front xs b) bs
theorem front_len {xs : List Str} {b : Str} : (front xs b).length ≤ xs.length + 1 := by
  unfold front
  have := List.length_filter_le (fun x => !decide (x = b)) xs
  simp only [List.length_cons]
  omega
theorem front_perm {xs : List Str} {b : Str} (hn : xs.Nodup) (hb : b ∈ xs) : (front xs b).Perm xs := (perm_filter hn hb).symm
theorem led_perm : ∀ (bs : List Str) {xs : List Str}, xs.Nodup → (∀ b ∈ bs, b ∈ xs) → (led xs bs).Perm xs
  | [], _, _, _ => List.Perm.refl _
  | b :: bs, xs, hn, hb => by
    have p := front_perm hn (hb b List.mem_cons_self)
    exact (led_perm bs (p.nodup_iff.mpr hn) fun c hc => p.mem_iff.mpr (hb c (List.mem_cons_of_mem _ hc))).trans p
end VL
/-! VM7: led, same. -/
namespace VL
open PySem PySem.Spec PyProof.Rows L2 Sh
theorem led_wp {S : Sto} {xs : List Str} {bs : List Str} {Q : D → Sto → Prop} (hl : xs.length + bs.length ≤ 1000) (q : Q (tupD (led xs bs)) S) : Ret (f_x_law_led [tupD xs, tupD bs] S) Q := by
  unfold f_x_law_led s_x_law_led
  walk_at "wp"
  refine for_wp (fun i en st => st = S ∧ ∃ (ys : List Str) (x : Option D), en = [some (tupD ys), some (tupD bs), x] ∧ led ys (bs.drop i) = led xs bs ∧ ys.length + (bs.drop i).length ≤ 1000) _ 0 _ _ ⟨rfl, xs, none, rfl, by simp, by simpa using hl⟩ ?_ ?_
  · rintro i d en st hd ⟨rfl, ys, x, rfl, e, hy⟩
    rw [List.getElem?_map, Option.map_eq_some_iff] at hd
    obtain ⟨b, hb, rfl⟩ := hd
    rw [Nat.zero_add] at e hy ⊢
    rw [drop_cons hb] at e hy
    rw [List.length_cons] at hy
    walk_at "wp"
    refine asked_wp (by omega) ?_
    have := front_len (xs := ys) (b := b)
    exact ⟨rfl, front ys b, _, rfl, e, by omega⟩
  · rintro en st ⟨rfl, ys, x, rfl, e, hy⟩
    rw [Nat.zero_add, List.length_map, List.drop_length] at e
    walk_at "wp"
    have e : ys = led xs bs := e
    rw [e]
    exact q
/-! ### same -/
/-- data made of numbers, truth values, texts, None and tuples, at most n deep -/
inductive Sim : Nat → D → Prop where
  | int (n : Nat) (i : Int) : Sim n (.int i)
  | bl (n : Nat) (b : Bool) : Sim n (.bl b)
  | str (n : Nat) (z : Str) : Sim n (.str z)
  | non (n : Nat) : Sim n .non
  | tup (n : Nat) (ds : List D) (h : ∀ d ∈ ds, Sim n d) (hl : ds.length ≤ 1000000) : Sim (n + 1) (.tup ds)
theorem sim_py : ∀ {n : Nat} {d : D}, Sim n d → ∃ p, d.py = some p ∧ p.plain = true ∧ p.depth ≤ n ∧ ∀ S, pyOf S d = some p := by
  intro n d h
  induction h with
  | int n i => exact ⟨.int i, rfl, rfl, Nat.zero_le _, fun _ => rfl⟩
  | bl n i => exact ⟨.bool i, rfl, rfl, Nat.zero_le _, fun _ => rfl⟩
  | str n i => exact ⟨.str i, rfl, rfl, Nat.zero_le _, fun _ => rfl⟩
  | non n => exact ⟨.none, rfl, rfl, Nat.zero_le _, fun _ => rfl⟩
  | tup n ds h hl ih =>
    have key : ∀ es : List D, (∀ d ∈ es, ∃ p, d.py = some p ∧ p.plain = true ∧ p.depth ≤ n ∧ ∀ S, pyOf S d = some p) → ∃ ps, pys es = some ps ∧ PyData.plainAll ps = true ∧ PyData.depthAll ps ≤ n := by
      intro es
      induction es with
      | nil => exact fun _ => ⟨[], rfl, rfl, Nat.zero_le _⟩
      | cons e es ih2 =>
        intro hh
        obtain ⟨p, h1, h2, h3, _⟩ := hh e List.mem_cons_self
        obtain ⟨ps, g1, g2, g3⟩ := ih2 fun d hd => hh d (List.mem_cons_of_mem _ hd)
        refine ⟨p :: ps, by simp only [pys, h1, g1], by simp [PyData.plainAll, h2, g2], ?_⟩
        show max p.depth (PyData.depthAll ps) ≤ n
        exact Nat.max_le.mpr ⟨h3, g3⟩
    obtain ⟨ps, g1, g2, g3⟩ := key ds ih
    have e : (D.tup ds).py = some (.tuple ps) := by
      show (pys ds).map PyData.tuple = _
      rw [g1]
      rfl
    exact ⟨.tuple ps, e, by simpa [PyData.plain] using g2, Nat.succ_le_succ g3, fun S => e⟩
theorem sim_eq {n : Nat} {d : D} {S : Sto} {P : D → Sto → Prop} (h : Sim n d) (hn : n ≤ 60) : Ret (mEq d d S) P = P (.bl true) S := by
  obtain ⟨p, e, hp, hd, h2⟩ := sim_py h
  have e1 : mEq d d S = .ok (.bl true) S := by
    unfold mEq
    rw [h2 S]
    simp only []
    rw [if_pos (by rw [Nat.min_self]; omega), SeqAt.eqv_refl_plain p hp]
  rw [e1, ret_ok]
theorem ret_nebl {a : Bool} {S : Sto} {P : D → Sto → Prop} : Ret (mNe (.bl a) (.bl a) S) P = P (.bl false) S := by
  have e1 : mNe (.bl a) (.bl a) S = .ok (.bl false) S := by
    unfold mNe
    cases a <;> rfl
  rw [e1, ret_ok]
theorem ret_eqbl {a : Bool} {S : Sto} {P : D → Sto → Prop} : Ret (mEq (.bl a) (.bl a) S) P = P (.bl true) S := by
  have e1 : mEq (.bl a) (.bl a) S = .ok (.bl true) S := by
    unfold mEq
    cases a <;> rfl
  rw [e1, ret_ok]
theorem isi_at {d : D} {t ty : String} {b : Bool} {S : Sto} {P : D → Sto → Prop} (h : tyn d = some t) (h2 : kitB t ty = some b) : Ret (mIsi [d, .ty ty] S) P = P (.bl b) S := by
  have e1 : mIsi [d, .ty ty] S = .ok (.bl b) S := by
    unfold mIsi arg2
    simp only [h, h2]
  rw [e1, ret_ok]
theorem ret_all {bs : List Bool} {S : Sto} {P : D → Sto → Prop} : Ret (mAll [.lst (bs.map D.bl)] S) P = P (.bl (bs.all id)) S := by
  have e1 : mAll [.lst (bs.map D.bl)] S = .ok (.bl (bs.all id)) S := by
    unfold mAll arg1 inL inBools
    simp only [listOf, boolsOf_bools]
  rw [e1, ret_ok]
theorem same_wp : ∀ (m : Nat) {n : Nat} {d : D} {S : Sto} {Q : D → Sto → Prop}, Sim n d → n < m → n ≤ 60 → Q (.bl true) S → Ret (f_x_law_same_n m [d, d] S) Q
  | 0, _, _, _, _, _, h, _, _ => absurd h (Nat.not_lt_zero _)
  | m + 1, n, d, S, Q, hs, hnm, hn, q => by
    show Ret (fnD 3 (s_x_law_same (f_x_law_same_n m)) [d, d] S) Q
    unfold s_x_law_same
    have flat : (t : String) → (b c : Bool) → tyn d = some t → kitB t "tuple" = some false → kitB t "bool" = some b → kitB t "int" = some c → Ret (fnD 3 (s_x_law_same (f_x_law_same_n m)) [d, d] S) Q := by
      intro t b c h1 h2 h3 h4
      unfold s_x_law_same
      walk_at "wp"
      rw [isi_at h1 h2]
      walk_at "wp"
      rw [isi_at h1 h3, isi_at h1 h3, ret_nebl]
      walk_at "wp"
      rw [isi_at h1 h4, isi_at h1 h4, ret_nebl]
      walk_at "wp"
      rw [isi_at h1 h2, isi_at h1 h2, ret_eqbl]
      walk_at "wp"
      rw [sim_eq hs hn]
      exact q
    cases hs with
    | int n i => exact flat "int" false true rfl (by decide +kernel) (by decide +kernel) (by decide +kernel)
    | bl n i => exact flat "bool" true true rfl (by decide +kernel) (by decide +kernel) (by decide +kernel)
    | str n i => exact flat "str" false false rfl (by decide +kernel) (by decide +kernel) (by decide +kernel)
    | non n => exact flat "NoneType" false false rfl (by decide +kernel) (by decide +kernel) (by decide +kernel)
    | tup n ds h hl =>
      walk_at "wp"
      rw [isi_at (t := "tuple") rfl (show kitB "tuple" "tuple" = some true by decide +kernel)]
      walk_at "wp"
      rw [isi_at (t := "tuple") rfl (show kitB "tuple" "tuple" = some true by decide +kernel)]
      walk_at "wp"
      rw [ret_range (by omega)]
      refine comp_pure (enc := fun i : Nat => D.int (i : Nat)) (p := fun _ => true) (k := fun _ => D.bl true) (fun i hi => ?_) (line_big (by rw [List.length_range]; omega)) ?_
      · have hi := List.mem_range.mp hi
        have e : atI ds (i : Int) = some ds[i] := atI_nat (List.getElem?_eq_getElem hi)
        walk_at "wp"
        rw [e]
        walk_at "wp"
        exact fun _ => same_wp m (h _ (List.getElem_mem hi)) (by omega) (by omega) ⟨rfl, rfl⟩
      · have e2 : ((List.range ds.length).filter fun _ => true).map (fun _ => D.bl true) = (List.replicate ds.length true).map D.bl := by
          rw [List.filter_eq_self.mpr (fun _ _ => rfl)]
          apply List.ext_getElem?
          intro j
          simp
          by_cases hj : j < ds.length <;> simp [hj]
        rw [e2, ret_all]
        have e3 : (List.replicate ds.length true).all id = true := by simp
        rw [e3]
        exact q
end VL
/-! VM8: a shelf's form. -/
namespace VL
open PySem PySem.Spec PyProof.Rows L2 Sh
section
variable {S : Sto} {P : D → Sto → Prop} {PL : List D → Sto → Prop} {z x y : Str}
theorem ret_iter_str : Ret (mIter (.str z) S) PL = PL (z.cps.toList.map fun c => .str ⟨#[c]⟩) S := by
  have e : mIter (.str z) S = .ok (z.cps.toList.map fun c => .str ⟨#[c]⟩) S := by
    unfold mIter
    rfl
  rw [e, ret_ok]
theorem ret_in_sign {c : Nat} : Ret (mIn false (.str ⟨#[c]⟩) (.str z) S) P = P (.bl (decide (c ∈ z.cps.toList))) S := by
  have e : mIn false (.str ⟨#[c]⟩) (.str z) S = .ok (.bl (decide (c ∈ z.cps.toList))) S := by
    unfold mIn
    rfl
  rw [e, ret_ok]
theorem ret_ne_str : Ret (mNe (.str x) (.str y) S) P = P (.bl (!decide (x = y))) S := ret_ne (α := Str) (Nat.zero_le _)
theorem ret_eq_str : Ret (mEq (.str x) (.str y) S) P = P (.bl (decide (x = y))) S := ret_eq (α := Str) (Nat.zero_le _)
theorem ret_notin_w {xs : List Str} : Ret (mIn true (.str x) (.wtup (xs.map D.str)) S) P = P (.bl (!decide (x ∈ xs))) S := by
  have h := any_eqv x xs
  have h3 := depthAll_map xs
  have e : pys (xs.map D.str) = some (xs.map Dat.py) := pys_map xs
  have e1 : mIn true (.str x) (.wtup (xs.map D.str)) S = .ok (.bl (!decide (x ∈ xs))) S := by
    unfold mIn
    simp only [pyOf, D.py]
    rw [e]
    simp only [Option.map_some]
    rw [if_pos (by
      have : (PyData.str x).depth = 0 := rfl
      rw [this]; omega)]
    have h' : ((xs.map Dat.py).any fun y => PyData.eqv y (.str x)) = decide (x ∈ xs) := h
    rw [h']
    rfl
  rw [e1, ret_ok]
theorem letters_has {c : Nat} (h : okC c) : c ∈ letters.cps.toList := by
  have : ∀ c : Nat, c < 123 → 97 ≤ c → c ∈ letters.cps.toList := by decide +kernel
  exact this c (by unfold okC at h; omega) h.1
theorem isword_wp (h : Nm z) (q : P (.bl true) S) : Ret (f_is_word [.str z] S) P := by
  unfold f_is_word s_is_word
  walk_at "wp"
  rw [isi_at (t := "str") rfl (show kitB "str" "str" = some true by decide +kernel)]
  walk_at "wp"
  rw [ret_ne_str]
  have hne : ¬ z = Str.ofString "" := fun e => by
    have := h.2.1
    rw [e] at this
    exact absurd this (by decide)
  simp only [decide_eq_false hne, Bool.not_false]
  walk_at "wp"
  rw [ret_iter_str]
  refine comp_pure (enc := fun c : Nat => D.str ⟨#[c]⟩) (p := fun _ => true) (k := fun _ => D.bl true) (fun c hc => ?_) (line_big ?_) ?_
  · walk_at "wp"
    exact fun _ => (by
      rw [show (Str.ofString "abcdefghijklmnopqrstuvwxyz") = letters from rfl, ret_in_sign, decide_eq_true (letters_has (h.1 c hc))]
      exact ⟨rfl, rfl⟩)
  · have := h.2.2.1
    have e : z.cps.toList.length = z.length := by simp [Str.length]
    omega
  · have e2 : (z.cps.toList.filter fun _ => true).map (fun _ => D.bl true) = (List.replicate z.cps.toList.length true).map D.bl := by
      rw [List.filter_eq_self.mpr (fun _ _ => rfl)]
      apply List.ext_getElem?
      intro j
      by_cases hj : j < z.cps.toList.length
      · simp only [List.getElem?_map, List.getElem?_replicate, if_pos hj, List.getElem?_eq_getElem hj, Option.map_some]
      · simp only [List.getElem?_map, List.getElem?_replicate, if_neg hj, List.getElem?_eq_none (Nat.le_of_not_lt hj), Option.map_none]
    rw [e2, ret_all]
    have e3 : (List.replicate z.cps.toList.length true).all id = true := by simp
    rw [e3]
    exact q
theorem isname_wp (h : Nm z) (q : P (.bl true) S) : Ret (f_is_name [.str z] S) P := by
  unfold f_is_name s_is_name
  walk_at "wp"
  refine isword_wp h ?_
  walk_at "wp"
  refine ⟨line_big (by have := h.2.2.1; omega), ?_⟩
  rw [if_pos (by have := h.2.2.1; omega), ret_notin_w, decide_eq_false h.2.2.2]
  exact q
theorem all_true {α : Type} (xs : List α) : ((xs.filter fun _ => true).map (fun _ => D.bl true)) = (List.replicate xs.length true).map D.bl := by
  rw [List.filter_eq_self.mpr (fun _ _ => rfl)]
  apply List.ext_getElem?
  intro j
  by_cases hj : j < xs.length
  · simp only [List.getElem?_map, List.getElem?_replicate, if_pos hj, List.getElem?_eq_getElem hj, Option.map_some]
  · simp only [List.getElem?_map, List.getElem?_replicate, if_neg hj, List.getElem?_eq_none (Nat.le_of_not_lt hj), Option.map_none]
theorem ret_all_true {α : Type} {xs : List α} : Ret (mAll [.lst ((xs.filter fun _ => true).map (fun _ => D.bl true))] S) P = P (.bl true) S := by
  rw [all_true, ret_all]
  have e3 : (List.replicate xs.length true).all id = true := by simp
  rw [e3]
theorem count_one {xs : List Str} {x : Str} (h : xs.Nodup) (hx : x ∈ xs) : xs.count x = 1 := by
  have h1 := List.nodup_iff_count.mp h x
  have h2 := List.count_pos_iff.mpr hx
  omega
theorem isshelf_wp {xs : List Str} (h : Shelf xs) (h1 : 1 ≤ xs.length) (h7 : xs.length ≤ 7) (q : P (.bl true) S) : Ret (f_is_shelf_form [tupD xs] S) P := by
  unfold f_is_shelf_form s_is_shelf_form
  walk_at "wp"
  rw [isi_at (t := "tuple") rfl (show kitB "tuple" "tuple" = some true by decide +kernel)]
  walk_at "wp"
  rw [if_pos (by omega), if_neg (by omega)]
  refine comp_pure (enc := Dat.d) (p := fun _ => true) (k := fun _ => D.bl true) (fun x hx => ?_) (line_big (by omega)) ?_
  · walk_at "wp"
    exact fun _ => isname_wp (h.2 x hx) ⟨rfl, rfl⟩
  · rw [ret_all_true]
    walk_at "wp"
    refine comp_pure (enc := Dat.d) (p := fun _ => true) (k := fun _ => D.bl true) (fun x hx => ?_) (line_big (by omega)) ?_
    · walk_at "wp"
      refine fun _ => ?_
      rw [ret_count (α := Str) (Nat.zero_le _) (line_big (by omega))]
      walk_at "wp"
      have e4 : xs.count x = 1 := count_one h.1 hx
      rw [e4]
      rfl
    · rw [ret_all_true]
      exact q
end
end VL
/-! VM9: sorted texts; like shelves; numbers. -/
namespace VL
open PySem PySem.Spec PyProof.Rows L2 Sh
def strLe (x y : Str) : Bool := decide (x.cps.toList ≤ y.cps.toList)
def sortS (xs : List Str) : List Str := xs.mergeSort strLe
theorem leD_str (x y : Str) : leD (.str x) (.str y) = strLe x y := by
  show PySem.W.dataLe false (fun b : Str => PyData.str b) x y = _
  rw [PySem.W.dataLe_str (fun b => b)]
  rfl
theorem str_inj {x y : Str} (h : x.cps.toList = y.cps.toList) : x = y := by
  obtain ⟨⟨a⟩⟩ := x
  obtain ⟨⟨b⟩⟩ := y
  have h : a = b := h
  rw [h]
theorem sortS_perm {xs ys : List Str} (h : xs.Perm ys) : sortS xs = sortS ys := by
  have tr : ∀ a b c : Str, strLe a b = true → strLe b c = true → strLe a c = true := fun a b c h1 h2 => decide_eq_true (List.le_trans (of_decide_eq_true h1) (of_decide_eq_true h2))
  have tot : ∀ a b : Str, (strLe a b || strLe b a) = true := fun a b => by
    rcases List.le_total a.cps.toList b.cps.toList with z | z
    · simp [strLe, z]
    · simp [strLe, z]
  refine List.Perm.eq_of_pairwise (le := fun a b => strLe a b = true) (fun a b _ _ h1 h2 => str_inj (List.le_antisymm (of_decide_eq_true h1) (of_decide_eq_true h2))) (List.pairwise_mergeSort tr tot xs) (List.pairwise_mergeSort tr tot ys) ?_
  exact ((List.mergeSort_perm xs strLe).trans h).trans (List.mergeSort_perm ys strLe).symm
section
variable {S : Sto} {P : D → Sto → Prop} {xs ys : List Str}
theorem ret_sorted (hl : xs.length ≤ LINE) : Ret (mSorted [tupD xs] S) P = P (.lst ((sortS xs).map D.str)) S := by
  have e : pys (xs.map D.str) = some (xs.map PyData.str) := pys_map xs
  have ok : sortOk (xs.map PyData.str) = true := by
    unfold sortOk
    simp only [Bool.and_eq_true, Bool.or_eq_true, List.all_eq_true, decide_eq_true_eq]
    refine ⟨⟨fun p hp q hq => ?_, .inr fun p hp => ?_⟩, fun p hp => ?_⟩
    · obtain ⟨a, _, rfl⟩ := List.mem_map.mp hp
      obtain ⟨b, _, rfl⟩ := List.mem_map.mp hq
      rfl
    · obtain ⟨a, _, rfl⟩ := List.mem_map.mp hp
      rfl
    · obtain ⟨a, _, rfl⟩ := List.mem_map.mp hp
      exact Nat.zero_le _
  have e1 : mSorted [tupD xs] S = .ok (.lst ((sortS xs).map D.str)) S := by
    unfold mSorted arg1 inS
    show (match pys (xs.map D.str) with
      | some ps => if sortOk ps = true ∧ (xs.map D.str).length ≤ LINE then Res.ok (D.lst ((xs.map D.str).mergeSort leD)) S else .bad
      | none => .bad) = _
    rw [e]
    simp only []
    rw [if_pos ⟨ok, by rw [List.length_map]; exact hl⟩]
    unfold sortS
    rw [List.map_mergeSort (s := leD) (f := D.str) fun a _ b _ => (leD_str a b).symm]
  rw [e1, ret_ok]
theorem ret_eq_lst : Ret (mEq (.lst (xs.map D.str)) (.lst (ys.map D.str)) S) P = P (.bl (decide (xs = ys))) S := by
  have e : ∀ zs : List Str, pys (zs.map D.str) = some (zs.map PyData.str) := fun zs => pys_map zs
  have e2 : ∀ zs : List Str, pyOf S (.lst (zs.map D.str)) = some (.list (zs.map PyData.str)) := fun zs => by
    show (pys (zs.map D.str)).map PyData.list = _
    rw [e]
    rfl
  have e1 : mEq (.lst (xs.map D.str)) (.lst (ys.map D.str)) S = .ok (.bl (decide (xs = ys))) S := by
    unfold mEq
    rw [e2, e2]
    have hd : (PyData.list (xs.map PyData.str)).depth ≤ 1 := Nat.succ_le_succ (depthAll_map xs)
    have hq : PyData.eqv (.list (xs.map PyData.str)) (.list (ys.map PyData.str)) = decide (xs = ys) := eqvAll_map xs ys
    simp only [hq]
    rw [if_pos (by omega)]
  rw [e1, ret_ok]
theorem islike_wp (h : Shelf ys) (h1 : 1 ≤ ys.length) (h7 : ys.length ≤ 7) (p : ys.Perm xs) (q : P (.bl true) S) : Ret (f_is_like_shelf [tupD xs, tupD ys] S) P := by
  have hl := p.length_eq
  unfold f_is_like_shelf s_is_like_shelf
  walk_at "wp"
  refine isshelf_wp h h1 h7 ?_
  walk_at "wp"
  rw [ret_sorted (line_big (by omega)), ret_sorted (line_big (by omega)), ret_eq_lst, decide_eq_true (sortS_perm p)]
  exact q
theorem checknum_wp {i lo hi : Int} (h1 : lo ≤ i) (h2 : i ≤ hi) (q : P .non S) : Ret (f_check_number [.int i, .int lo, .int hi] S) P := by
  unfold f_check_number s_check_number
  walk_at "wp"
  have num : ∀ {Q : D → Sto → Prop}, Q (.bl true) S → Ret (f_is_number [.int i, .int lo, .int hi] S) Q := fun {Q} q => by
    unfold f_is_number s_is_number
    walk_at "wp"
    have whole : ∀ {Q : D → Sto → Prop}, Q (.bl true) S → Ret (f_is_whole [.int i] S) Q := fun {Q} q => by
      unfold f_is_whole s_is_whole
      walk_at "wp"
      rw [isi_at (t := "int") rfl (show kitB "int" "int" = some true by decide +kernel)]
      walk_at "wp"
      rw [isi_at (t := "int") rfl (show kitB "int" "bool" = some false by decide +kernel)]
      walk_at "wp"
      exact q
    refine whole ?_
    walk_at "wp"
    have e1 : ∀ {Q : D → Sto → Prop}, Ret (mIs true (.int lo) .non S) Q = Q (.bl true) S := fun {Q} => by
      rw [show mIs true (.int lo) .non S = .ok (.bl true) S from rfl, ret_ok]
    have e2 : ∀ {Q : D → Sto → Prop}, Ret (mIs false (.int hi) .non S) Q = Q (.bl false) S := fun {Q} => by
      rw [show mIs false (.int hi) .non S = .ok (.bl false) S from rfl, ret_ok]
    rw [e1]
    walk_at "wp"
    rw [if_neg (by omega), e2]
    walk_at "wp"
    rw [decide_eq_true h2]
    exact q
  refine num ?_
  walk_at "wp"
  exact q
end
end VL
/-! VM10: stores from step to step; the law's own frame. -/
namespace VL
open PySem PySem.Spec PyProof.Rows L2 Sh
/-- the well n alone may have changed; lists may have been added -/
structure Up (n : Nat) (S S' : Sto) : Prop where
  le : S.length ≤ S'.length
  at_ : ∀ i, i < S.length → i ≠ n → S'[i]? = S[i]?
/-- nothing has changed; lists may have been added -/
structure Same (S S' : Sto) : Prop where
  le : S.length ≤ S'.length
  at_ : ∀ i, i < S.length → S'[i]? = S[i]?
theorem Up.refl (n : Nat) (S : Sto) : Up n S S := ⟨Nat.le_refl _, fun _ _ _ => rfl⟩
theorem Up.trans {n : Nat} {S S1 S2 : Sto} (a : Up n S S1) (b : Up n S1 S2) : Up n S S2 :=
  ⟨Nat.le_trans a.le b.le, fun i h1 h2 => (b.at_ i (Nat.lt_of_lt_of_le h1 a.le) h2).trans (a.at_ i h1 h2)⟩
theorem Same.refl (S : Sto) : Same S S := ⟨Nat.le_refl _, fun _ _ => rfl⟩
theorem Same.trans {S S1 S2 : Sto} (a : Same S S1) (b : Same S1 S2) : Same S S2 :=
  ⟨Nat.le_trans a.le b.le, fun i h1 => (b.at_ i (Nat.lt_of_lt_of_le h1 a.le)).trans (a.at_ i h1)⟩
theorem Same.up {S S' : Sto} (a : Same S S') (n : Nat) : Up n S S' := ⟨a.le, fun i h _ => a.at_ i h⟩
theorem same_app (S T : Sto) : Same S (S ++ T) := ⟨by simp, fun i h => List.getElem?_append_left h⟩
theorem up_set (n : Nat) (S : Sto) (c : Option (List D)) : Up n S (S.set n c) := ⟨by simp, fun i _ h => List.getElem?_set_ne (Ne.symm h)⟩
theorem up_set_app (n : Nat) (S T : Sto) (c : Option (List D)) : Up n S (S.set n c ++ T) := (up_set n S c).trans ((same_app _ T).up n)
def WellAt (S : Sto) (n : Nat) (k : Int) : Prop := ∃ ws, S[n]? = some (some ws) ∧ Wl k ws
theorem WellAt.lt {S : Sto} {n : Nat} {k : Int} (h : WellAt S n k) : n < S.length := (List.getElem?_eq_some_iff.mp h.choose_spec.1).1
theorem WellAt.mono {S : Sto} {n : Nat} {k l : Int} (h : WellAt S n k) (hl : k ≤ l) : WellAt S n l := let ⟨ws, a, b⟩ := h; ⟨ws, a, b.mono hl⟩
theorem WellAt.same {S S' : Sto} {n : Nat} {k : Int} (h : WellAt S n k) (e : Same S S') : WellAt S' n k := let ⟨ws, a, b⟩ := h; ⟨ws, (e.at_ n h.lt).trans a, b⟩
theorem WellAt.up {S S' : Sto} {n m : Nat} {k : Int} (h : WellAt S n k) (e : Up m S S') (hm : n ≠ m) : WellAt S' n k := let ⟨ws, a, b⟩ := h; ⟨ws, (e.at_ n h.lt hm).trans a, b⟩
theorem wellAt_set {S T : Sto} {n : Nat} {k : Int} {ws : List D} (h : n < S.length) (hw : Wl k ws) : WellAt (S.set n (some ws) ++ T) n k := ⟨ws, by rw [List.getElem?_append_left (by simpa using h), List.getElem?_set_self h], hw⟩
theorem wellAt_set0 {S : Sto} {n : Nat} {k : Int} {ws : List D} (h : n < S.length) (hw : Wl k ws) : WellAt (S.set n (some ws)) n k := ⟨ws, by rw [List.getElem?_set_self h], hw⟩
section
variable {S : Sto} {n : Nat} {k : Int} {Q : D → Sto → Prop}
theorem draw_up {lim : Int} (h : WellAt S n k) (hk : k < 2 ^ 100) (h0 : 0 < lim) (h1 : lim < 1073741824)
    (q : ∀ (r : Nat) (S' : Sto), (r : Int) < lim → Up n S S' → WellAt S' n (k + 1) → Q (.int r) S') : Ret (f_x_law_draw [.cel n, .int lim] S) Q := by
  obtain ⟨ws, a, b⟩ := h
  have hn := (List.getElem?_eq_some_iff.mp a).1
  refine draw_wp a b hk h0 h1 fun r ws' r0 r1 hw => ?_
  obtain ⟨m, rfl⟩ : ∃ m : Nat, r = m := ⟨r.toNat, by omega⟩
  exact q m _ r1 (up_set n S _) (wellAt_set0 hn hw)
theorem of_up {d : D} {xs : List D} (h : WellAt S n k) (hk : k < 2 ^ 100) (hd : seqOf S d = some xs ∧ (∀ S', seqOf S' d = some xs) ∧ ∀ z, d ≠ .str z) (h0 : xs ≠ []) (h1 : xs.length < 1073741824)
    (q : ∀ (x : D) (S' : Sto), x ∈ xs → Up n S S' → WellAt S' n (k + 1) → Q x S') : Ret (f_x_law_of [.cel n, d] S) Q := by
  obtain ⟨ws, a, b⟩ := h
  have hn := (List.getElem?_eq_some_iff.mp a).1
  exact of_wp a b hk hd h0 h1 fun x ws' hx hw => q x _ hx (up_set n S _) (wellAt_set0 hn hw)
theorem shuffled_up {xs : List Str} (h : WellAt S n k) (hk : k + 1000 < 2 ^ 100) (hx : xs.Nodup) (hl : xs.length ≤ 100)
    (q : ∀ (ys : List Str) (S' : Sto), ys.Perm xs → Up n S S' → WellAt S' n (k + 100) → Q (tupD ys) S') : Ret (f_x_law_shuffled [.cel n, tupD xs] S) Q := by
  obtain ⟨ws, a, b⟩ := h
  have hn := (List.getElem?_eq_some_iff.mp a).1
  exact shuffled_str a b hk hx hl fun ys ws' hp hw => q ys _ hp (up_set n S _) (wellAt_set0 hn hw)
theorem shelf_up {lo hi : Nat} (h : WellAt S n k) (hk : k + 10000 < 2 ^ 100) (h1 : lo ≤ hi) (h2 : hi ≤ 7)
    (q : ∀ (xs : List Str) (S' : Sto), Shelf xs → lo ≤ xs.length → xs.length ≤ hi → Up n S S' → WellAt S' n (k + 300) → Q (tupD xs) S') : Ret (f_x_law_shelf [.cel n, .int lo, .int hi] S) Q := by
  obtain ⟨ws, a, b⟩ := h
  have hn := (List.getElem?_eq_some_iff.mp a).1
  exact shelf_wp a b hk h1 h2 fun xs ws' hs g1 g2 hw => q xs _ hs g1 g2 (up_set_app n S _ _) (wellAt_set hn hw)
theorem askings_up {most : Nat} {xs : List Str} (h : WellAt S n k) (hk : k + 10000 < 2 ^ 100) (hm : most ≤ 100) (h0 : xs ≠ []) (hl : xs.length ≤ 100)
    (q : ∀ (ys : List Str) (S' : Sto), ys.length ≤ most → (∀ y ∈ ys, y ∈ xs) → Up n S S' → WellAt S' n (k + 200) → Q (tupD ys) S') : Ret (f_x_law_askings [.cel n, tupD xs, .int most] S) Q := by
  obtain ⟨ws, a, b⟩ := h
  have hn := (List.getElem?_eq_some_iff.mp a).1
  exact askings_wp a b hk hm h0 hl fun ys ws' g1 g2 hw => q ys _ g1 g2 (up_set n S _) (wellAt_set0 hn hw)
end
section
variable {S : Sto} {P : D → Sto → Prop} {PL : List D → Sto → Prop} {f : DEnv → M D} {t : DEnv → M Bool} {gt : D → DEnv → M DEnv} {en : DEnv}
/-- a comprehension whose steps only add lists -/
theorem comp_same' {γ : Type} {enc : γ → D} {p : γ → Bool} {k : γ → D} : ∀ (xs : List γ) (acc : List D) (S1 : Sto), Same S S1 → (∀ x ∈ xs, ∀ S1, Same S S1 → Ret (gt (enc x) en S1) fun en1 S2 => Ret (t en1 S2) fun b S3 => b = p x ∧ (p x = true → Ret (f en1 S3) fun d S4 => Same S S4 ∧ d = k x) ∧ (p x = false → Same S S3)) → acc.length + xs.length ≤ LINE →
    (∀ S', Same S S' → PL (acc ++ (xs.filter p).map k) S') → Ret (compL gt t f en (xs.map enc) acc S1) PL
  | [], acc, S1, h1, _, _, hq => by
    rw [List.map_nil]
    unfold compL
    rw [ret_ok]
    have := hq S1 h1
    rw [List.filter_nil, List.map_nil, List.append_nil] at this
    exact this
  | x :: xs, acc, S1, h1, hs, hl, hq => by
    obtain ⟨en1, S2, e1, h2⟩ := (hs x List.mem_cons_self S1 h1).ex
    obtain ⟨b, S3, e2, h3, h4, h5⟩ := h2.ex
    have hs' := fun y hy => hs y (List.mem_cons_of_mem x hy)
    rw [List.length_cons] at hl
    rw [List.map_cons]
    unfold compL
    rw [e1]
    simp only []
    rw [e2]
    cases hp : p x with
    | false =>
      have eb : b = false := h3.trans hp
      subst eb
      rw [List.filter_cons_of_neg (by rw [hp]; exact Bool.false_ne_true)] at hq
      exact comp_same' xs acc S3 (h5 hp) hs' (by omega) hq
    | true =>
      have eb : b = true := h3.trans hp
      subst eb
      obtain ⟨d, S4, e3, h6, h7⟩ := (h4 hp).ex
      rw [h7] at e3
      rw [List.filter_cons_of_pos hp, List.map_cons] at hq
      simp only []
      rw [e3]
      simp only []
      rw [if_pos (by omega)]
      refine comp_same' xs (acc ++ [k x]) S4 h6 hs' (by rw [List.length_append, List.length_singleton]; omega) fun S' h => ?_
      rw [List.append_assoc]
      exact hq S' h
theorem comp_same {γ : Type} {enc : γ → D} {p : γ → Bool} {k : γ → D} {xs : List γ} (hstep : ∀ x ∈ xs, ∀ S1, Same S S1 → Ret (gt (enc x) en S1) fun en1 S2 => Ret (t en1 S2) fun b S3 => b = p x ∧ (p x = true → Ret (f en1 S3) fun d S4 => Same S S4 ∧ d = k x) ∧ (p x = false → Same S S3)) (hl : xs.length ≤ LINE)
    (hq : ∀ S', Same S S' → PL ((xs.filter p).map k) S') : Ret (compL gt t f en (xs.map enc) [] S) PL := comp_same' xs [] S (Same.refl S) hstep (by simpa using hl) (by simpa using hq)
/-- one that takes every element -/
theorem comp_all {γ : Type} {enc k : γ → D} {xs : List γ} (hstep : ∀ x ∈ xs, ∀ S1, Same S S1 → Ret (gt (enc x) en S1) fun en1 S2 => Ret (f en1 S2) fun d S4 => Same S S4 ∧ d = k x) (hl : xs.length ≤ LINE)
    (hq : ∀ S', Same S S' → PL (xs.map k) S') : Ret (compL gt tYesM f en (xs.map enc) [] S) PL := by
  refine comp_same (p := fun _ => true) (k := k) (fun x hx S1 h1 => (hstep x hx S1 h1).mono fun en1 S2 h => ?_) hl fun S' h => ?_
  · rw [ret_yes]
    exact ⟨rfl, fun _ => h, fun z => nomatch z⟩
  · have e : xs.filter (fun _ => true) = xs := List.filter_eq_self.mpr fun _ _ => rfl
    rw [e]
    exact hq S' h
theorem ret_range2 {a b : Nat} (h0 : a < 1000000000) (h : b < 1000000000) : Ret (mRange2 [.int a, .int b] S) PL = PL ((List.range (b - a)).map fun i => D.int ((a + i : Nat) : Int)) S := by
  have e1 : mRange2 [.int a, .int b] S = .ok ((List.range (b - a)).map fun i => D.int ((a + i : Nat) : Int)) S := by
    unfold mRange2
    simp only []
    rw [if_pos (by omega)]
    unfold nums
    have e : ((b : Int) - (a : Int)).toNat = b - a := by omega
    rw [e]
    congr 1
  rw [e1, ret_ok]
end
/-- what a law does: two wells, N turns -/
def sLaw (R : List D → M D) (N : Int) : SM := sSeq (sAsg (eComp [2] (iRange1 (aCons (eC (.int 2)) (aNil))) (gN 2) (tYesM) (eCall (mArgs 2 f_x_law_well) (aCons (eVar 0) (aCons (eVar 2) (aNil))))) (gN 1)) (sRet (eCall mAll (aCons (eComp [3] (iRange1 (aCons (eC (.int N)) (aNil))) (gN 3) (tYesM) (eCall (mArgs 1 R) (aCons (e2 mIx (eVar 1) (e2 mMod (eCall mInt (aCons (eVar 3) (aNil))) (eC (.int 2)))) (aNil)))) (aNil))))
theorem law_any {R : List D → M D} {N : Nat} (hN : N ≤ 100) (hR : ∀ (n : Nat) (S : Sto) (k : Int), WellAt S n k → k + 1000000 < 2 ^ 100 → Ret (R [.cel n] S) fun d S' => d = .bl true ∧ Up n S S' ∧ WellAt S' n (k + 1000000)) (ns : List Int) {sc : List D → D} (hsc : sc = D.fro ∨ sc = D.lst) :
    ∃ S, fnD 4 (sLaw R N) [sc (ns.map D.int)] [] = .ok (.bl true) S := by
  have main : Ret (fnD 4 (sLaw R N) [sc (ns.map D.int)] []) fun d _ => d = .bl true := by
    unfold sLaw
    walk_at "wp"
    rw [show (D.int 2) = D.int ((2 : Nat) : Int) from rfl, ret_range (by omega)]
    refine comp_wp (fun i acc st => acc = (List.range i).map D.cel ∧ st.length = i ∧ ∀ j, j < i → WellAt st j 0) _ 0 _ _ ⟨rfl, rfl, fun j hj => absurd hj (Nat.not_lt_zero j)⟩ ?_ ?_
    · rintro i d acc st hd ⟨rfl, hl, hw⟩
      obtain ⟨hi, rfl⟩ := range_get hd
      rw [Nat.zero_add] at hl hw ⊢
      walk_at "wp"
      refine well_wp hsc hi fun ws h0 => ?_
      refine ⟨by rw [List.length_range]; unfold LINE; omega, ?_, by simp [hl], fun j hj => ?_⟩
      · rw [List.range_succ, List.map_append, hl]
        rfl
      · by_cases e : j = i
        · subst e
          exact ⟨ws, by rw [← hl, List.getElem?_append_right (Nat.le_refl _), Nat.sub_self]; rfl, h0⟩
        · exact (hw j (by omega)).same (same_app _ _)
    · rintro acc st ⟨e0, hl, hw⟩
      rw [Nat.zero_add, List.length_map, List.length_range] at e0 hl hw
      subst e0
      rw [ret_range (by omega)]
      refine comp_wp (fun i acc st => acc = (List.replicate i true).map D.bl ∧ ∀ j, j < 2 → WellAt st j (i * 1000000)) _ 0 _ _ ⟨rfl, fun j hj => (hw j hj).mono (by omega)⟩ ?_ ?_
      · rintro i d acc st hd ⟨rfl, hw⟩
        obtain ⟨hi, rfl⟩ := range_get hd
        rw [Nat.zero_add] at hw ⊢
        have hm : i % 2 < 2 := Nat.mod_lt _ (by decide)
        have e1 : atI ((List.range 2).map D.cel) ((i : Int) % ((2 : Nat) : Int)) = some (.cel (i % 2)) := by
          rw [show (i : Int) % ((2 : Nat) : Int) = ((i % 2 : Nat) : Int) by omega]
          exact atI_nat (by rw [List.getElem?_map, List.getElem?_range hm]; rfl)
        walk_at "wp"
        refine ⟨by decide, ?_⟩
        rw [e1]
        walk_at "wp"
        have hb : (i : Int) * 1000000 + 1000000 < 2 ^ 100 := by
          have : (100 : Int) * 1000000 + 1000000 < 2 ^ 100 := by decide
          omega
        refine (hR (i % 2) st _ (hw _ hm) hb).mono fun d S' h => ?_
        obtain ⟨rfl, hu, hw2⟩ := h
        refine ⟨by simp only [List.length_map, List.length_replicate]; unfold LINE; omega, ?_, fun j hj => ?_⟩
        · rw [List.map_replicate, ← List.replicate_succ', List.replicate_succ]
        · have e2 : (i : Int) * 1000000 + 1000000 = ((i + 1 : Nat) : Int) * 1000000 := by omega
          by_cases e : j = i % 2
          · rw [e, ← e2]; exact hw2
          · exact ((hw j hj).up hu e).mono (by omega)
      · rintro acc st ⟨rfl, hw⟩
        walk_at "wp"
        rw [ret_all]
        have e3 : ∀ m : Nat, (List.replicate m true).all id = true := fun m => by simp
        rw [e3]
  obtain ⟨a, S, e, rfl⟩ := main.ex
  exact ⟨S, e⟩
section
variable {S : Sto} {Q : D → Sto → Prop}
theorem same_law {n : Nat} {d : D} (h : Sim n d) (hn : n < 6) (q : Q (.bl true) S) : Ret (f_x_law_same [d, d] S) Q := same_wp 6 h hn (by omega) q
theorem sim_tup {n : Nat} {α : Type} [Dat α] {xs : List α} (h : ∀ x ∈ xs, Sim n (Dat.d x)) (hl : xs.length ≤ 1000000) : Sim (n + 1) (tupD xs) := .tup n _ (fun d hd => by
  obtain ⟨x, hx, rfl⟩ := List.mem_map.mp hd
  exact h x hx) (by rw [List.length_map]; exact hl)
theorem sim_strs {n : Nat} {xs : List Str} (hl : xs.length ≤ 1000000) : Sim (n + 1) (tupD xs) := sim_tup (fun x _ => .str n x) hl
theorem sim_two {n : Nat} {a b : D} (ha : Sim n a) (hb : Sim n b) : Sim (n + 1) (.tup [a, b]) := .tup n _ (fun d hd => by
  rcases List.mem_cons.mp hd with z | z
  · rw [z]; exact ha
  · rw [List.mem_singleton.mp z]; exact hb) (by simp)
theorem at_getD {α : Type} [Dat α] {xs : List α} {j : Nat} (z : α) (h : j < xs.length) : atI (xs.map Dat.d) (j : Int) = some (Dat.d (xs.getD j z)) := atI_nat (by
  rw [List.getElem?_map, List.getD_eq_getElem?_getD, List.getElem?_eq_getElem h]
  rfl)
end
end VL
/-! VM11: wrong_at, handed a lambda. -/
namespace VL
open PySem PySem.Spec PyProof.Rows L2 Sh
section
variable {S : Sto} {P : D → Sto → Prop} {gt : D → DEnv → M DEnv} {b : SM} {nx bk ct : DEnv → Sto → Prop} {rt : D → Sto → Prop} {en : DEnv} {d : D} {ds : List D}
theorem w_for_nil : W (forL gt b [] en S) nx rt bk ct = nx en S := by with_unfolding_all exact id rfl
theorem w_for_cons : W (forL gt b (d :: ds) en S) nx rt bk ct = Ret (gt d en S) fun en S => W (b en S) (fun en S => W (forL gt b ds en S) nx rt bk ct) rt nx (fun en S => W (forL gt b ds en S) nx rt bk ct) := by
  simp only [forL]
  cases gt d en S with
  | bad => with_unfolding_all rfl
  | ok en1 S1 =>
    simp only [ret_ok]
    cases b en1 S1 <;> with_unfolding_all rfl
open Classical in
theorem ret_callL {L : LK} {i : Nat} {Φ : List D → List D → M D} {fs : DEnv → M (List D)} {as : List D} (h : en[i]? = some (some (.lam L as))) : Ret (eCallL L i Φ fs en S) P = Ret (fs en S) fun ds S => Ret (Φ as ds S) P := by
  have e0 : eVar i en S = .ok (.lam L as) S := by
    unfold eVar
    rw [h]
  have e : eCallL L i Φ fs en S = M.bind (fs en) (Φ as) S := by
    unfold eCallL
    unfold M.bind
    rw [e0]
    simp only []
    exact congrFun (if_pos rfl) S
  rw [e, ret_bind]
theorem ret_of {α : Type} {r : Res α} {a : α} {S' : Sto} (h : Ret r fun x S2 => x = a ∧ S2 = S') : r = .ok a S' := by
  obtain ⟨x, S2, e, rfl, rfl⟩ := h.ex
  exact e
theorem ret_eqn {α : Type} {r : Res α} {a : α} {S' : Sto} {Q : α → Sto → Prop} (h : r = .ok a S') (q : Q a S') : Ret r Q := by
  rw [h, ret_ok]; exact q
theorem ret_enum {PL : List D → Sto → Prop} {xs : List D} : Ret (mEnum [.tup xs] S) PL = PL (pairUp (nums 0 xs.length) xs) S := by
  rw [show mEnum [.tup xs] S = .ok (pairUp (nums 0 xs.length) xs) S from rfl, ret_ok]
theorem nums_cons {i : Int} {n : Nat} : nums i (n + 1) = .int i :: nums (i + 1) n := by
  unfold nums
  rw [List.range_succ_eq_map, List.map_cons, List.map_map]
  congr 1
  · show D.int (i + 0) = _
    rw [Int.add_zero]
  · apply List.map_congr_left
    intro j _
    show D.int (i + ((j + 1 : Nat) : Int)) = D.int (i + 1 + (j : Int))
    congr 1
    omega
theorem pairUp_cons {x y : D} {xs ys : List D} : pairUp (x :: xs) (y :: ys) = .wtup [x, y] :: pairUp xs ys := by
  unfold pairUp
  rw [List.zip_cons_cons, List.map_cons]
end
theorem bind_ok {α β : Type} {x : M α} {f : α → M β} {S S' : Sto} {b : β} (h : M.bind x f S = .ok b S') : ∃ a S1, x S = .ok a S1 ∧ f a S1 = .ok b S' := by
  unfold M.bind at h
  cases e : x S with
  | ok a S1 => rw [e] at h; exact ⟨a, S1, rfl, h⟩
  | bad => rw [e] at h; cases h
theorem wrong_loop {Φ : List D → List D → M D} {L : LK} {ds xs : List D} {r : D} {S' : Sto} : ∀ (ys : List D) (i : Nat) (a b : Option D) (S : Sto), wrongGo (Φ ds) (.tup xs) ys i S = .ok r S' →
    W (forL (gT 2 (gsCons (gN 2) (gsCons (gN 3) (gsNil)))) (sIf (tNotM (tst (eCallL L 1 Φ (aCons (eVar 3) (aCons (eSl (eVar 0) (oNone) (oSome (eVar 2))) (aNil)))))) (sRet (eCall mLst (aCons (eVar 2) (aNil)))) (sNil)) (pairUp (nums i ys.length) ys) [some (.tup xs), some (.lam L ds), a, b] S) (fun _ S2 => r = .lst [] ∧ S2 = S') (fun d S2 => d = r ∧ S2 = S') (fun _ _ => False) (fun _ _ => False)
  | [], i, a, b, S, h => by
    have e : pairUp (nums i ([] : List D).length) [] = [] := rfl
    rw [e, w_for_nil]
    have h : Res.ok (D.lst []) S = .ok r S' := h
    injection h with h1 h2
    exact ⟨h1.symm, h2⟩
  | y :: ys, i, a, b, S, h => by
    unfold wrongGo at h
    obtain ⟨sl, S1, h1, h2⟩ := bind_ok h
    obtain ⟨rr, S2, h3, h4⟩ := bind_ok h2
    obtain ⟨k, S3, h5, h6⟩ := bind_ok h4
    rw [List.length_cons, nums_cons, pairUp_cons, w_for_cons]
    walk_at "wp"
    rw [ret_callL (L := L) (as := ds) rfl]
    walk_at "wp"
    have h1' : Res.ok (D.tup (VL.cutD xs none (some (i : Int)))) S = .ok sl S1 := h1
    injection h1' with g1 g2
    subst g1 g2
    refine ret_eqn h3 (ret_eqn h5 ?_)
    cases k with
    | true =>
      rw [if_pos rfl] at h6
      have := wrong_loop (L := L) ys (i + 1) (some (.int i)) (some y) S3 h6
      rw [show ((i + 1 : Nat) : Int) = (i : Int) + 1 by omega] at this
      walk_at "wp"
      exact this
    | false =>
      rw [if_neg Bool.false_ne_true] at h6
      have h6 : Res.ok (D.lst [D.int i]) S3 = .ok r S' := h6
      injection h6 with g3 g4
      walk_at "wp"
      exact ⟨line_big (by decide), g3, g4⟩
theorem wrong_hg (Φ : List D → List D → M D) (L : LK) (ds as : List D) (S : Sto) (r : D) (S' : Sto) (hn : as.length + 1 = 2) (h : wrongF Φ ds as S = .ok r S') : fnD 4 (sWrongL Φ L) (as ++ [.lam L ds]) S = .ok r S' := by
  match as, hn with
  | [d], _ =>
    refine ret_of ?_
    unfold wrongF at h
    obtain ⟨rr, S1, h1, h2⟩ := bind_ok h
    obtain ⟨k, S2, h3, h4⟩ := bind_ok h2
    unfold sWrongL
    walk_at "wp"
    refine ret_eqn h1 (ret_eqn h3 ?_)
    cases k with
    | false =>
      rw [if_neg Bool.false_ne_true] at h4
      have h4 : Res.ok (D.lst [D.non]) S2 = .ok r S' := h4
      injection h4 with g3 g4
      walk_at "wp"
      exact ⟨line_big (by decide), g3, g4⟩
    | true =>
      rw [if_pos rfl] at h4
      cases d with
      | tup xs =>
        walk_at "wp"
        rw [ret_enum]
        refine (wrong_loop xs 0 none none S2 h4).mono (fun en S3 q => ?_) (fun _ _ q => q) (fun _ _ q => q.elim) (fun _ _ q => q.elim)
        exact ⟨Nat.zero_le _, q.1.symm, q.2⟩
      | _ => cases h4
end VL
/-! VM12: right askings, shelves along, costs. -/
namespace VL
open PySem PySem.Spec PyProof.Rows L2 Sh
theorem cut_takeV {ds : List D} {k : Nat} (h : k ≤ ds.length) : VL.cutD ds none (some (k : Int)) = ds.take k := by
  unfold VL.cutD
  have e : HT.sIx ds.length ds.length (some (k : Int)) = k := by rw [HT.sIx_nat]; omega
  rw [e]
  simp [HT.sIx]
theorem cut_dropV {ds : List D} {k : Nat} (h : k ≤ ds.length) : VL.cutD ds (some (k : Int)) none = ds.drop k := by
  unfold VL.cutD
  rw [HT.sIx_nat, HT.sIx_none, Nat.min_eq_left h]
  exact List.take_of_length_le (by simp)
section
variable {S : Sto} {P : D → Sto → Prop} {en : DEnv}
theorem ret_vars_nil {PL : List D → Sto → Prop} : Ret (aVars [] en S) PL = PL [] S := ret_nil
theorem ret_vars_cons {j : Nat} {js : List Nat} {PL : List D → Sto → Prop} : Ret (aVars (j :: js) en S) PL = Ret (eVar j en S) fun d S => Ret (aVars js en S) fun ds S => PL (d :: ds) S := ret_cons
theorem ret_lamcall {js : List Nat} {FG : List D → List D → M D} {f1 : DEnv → M D} : Ret (eLamCall js FG f1 en S) P = Ret (f1 en S) fun d S => Ret (aVars js en S) fun ds S => Ret (FG ds [d] S) P := by
  unfold eLamCall
  simp only [ret_bind]
theorem wrongGo_all {Φ : List D → M D} {xs : List D} (h : ∀ i y, xs[i]? = some y → Ret (Φ [y, .tup (xs.take i)] S) fun r S1 => r = .bl true ∧ S1 = S) (q : P (.lst []) S) : Ret (wrongGo Φ (.tup xs) xs 0 S) P := by
  have key : ∀ (ys : List D) (i : Nat), xs.drop i = ys → i + ys.length = xs.length → Ret (wrongGo Φ (.tup xs) ys i S) P := by
    intro ys
    induction ys with
    | nil => intro i _ _; unfold wrongGo; rw [ret_pure]; exact q
    | cons y ys ih =>
      intro i hd hl
      have hi : i < xs.length := by rw [List.length_cons] at hl; omega
      have hy : xs[i]? = some y := by
        have := congrArg (fun l : List D => l[0]?) hd
        simpa using this
      unfold wrongGo
      rw [ret_bind]
      rw [show mSl (D.tup xs) none (some (i : Int)) S = .ok (.tup (VL.cutD xs none (some (i : Int)))) S from rfl, ret_ok, cut_takeV (Nat.le_of_lt hi), ret_bind]
      refine (h i y hy).mono fun r S1 ⟨e1, e2⟩ => ?_
      subst e1 e2
      rw [ret_bind, ret_mbool, if_pos rfl]
      refine ih (i + 1) ?_ (by rw [List.length_cons] at hl; omega)
      rw [← List.drop_drop, hd]
      rfl
  exact key xs 0 rfl (by omega)
theorem isone_wp {xs : List Str} {x : Str} (hx : x ∈ xs) (q : P (.bl true) S) : Ret (f_is_one_of [.str x, tupD xs] S) P := by
  unfold f_is_one_of s_is_one_of
  walk_at "wp"
  rw [isi_at (t := "str") rfl (show kitB "str" "str" = some true by decide +kernel)]
  walk_at "wp"
  show Ret (mIn false (Dat.d x) (tupD xs) S) P
  rw [ret_in (α := Str) (Nat.zero_le _), decide_eq_true hx]
  exact q
theorem wrongask_wp {xs ys : List Str} {most : Nat} (hl : ys.length ≤ most) (hy : ∀ y ∈ ys, y ∈ xs) (q : P (.lst []) S) : Ret (f_wrong_askings [tupD xs, tupD ys, .int most] S) P := by
  unfold f_wrong_askings s_wrong_askings
  walk_at "wp"
  rw [ret_lamcall]
  walk_at "wp"
  rw [ret_vars_cons]
  walk_at "wp"
  rw [ret_vars_cons]
  walk_at "wp"
  rw [ret_vars_nil]
  unfold wrongF
  rw [ret_bind, isi_at (t := "tuple") rfl (show kitB "tuple" "tuple" = some true by decide +kernel), ret_bind, ret_mbool, if_pos rfl]
  refine wrongGo_all (fun i y hi => ?_) q
  rw [List.getElem?_map, Option.map_eq_some_iff] at hi
  obtain ⟨z, hz, rfl⟩ := hi
  have hi := (List.getElem?_eq_some_iff.mp hz).1
  have hm := hy z (List.mem_of_getElem? hz)
  have e : lamF 2 2 b_wrong_askings [.int most, tupD xs] [Dat.d z, .tup ((ys.map Dat.d).take i)] = b_wrong_askings [some (Dat.d z), some (.tup ((ys.map Dat.d).take i)), some (.int most), some (tupD xs)] := if_pos ⟨rfl, rfl⟩
  rw [e]
  unfold b_wrong_askings
  walk_at "wp"
  have hlt : (((ys.map (Dat.d (α := Str))).take i).length : Int) < (most : Int) := by
    rw [List.length_take, List.length_map]; omega
  rw [if_pos hlt]
  refine isone_wp hm ?_
  exact ⟨rfl, rfl⟩
theorem checkask_wp {xs ys : List Str} (hl : ys.length ≤ 30) (hy : ∀ y ∈ ys, y ∈ xs) (q : P .non S) : Ret (f_check_askings_of [tupD xs, tupD ys] S) P := by
  unfold f_check_askings_of s_check_askings_of
  walk_at "wp"
  refine wrongask_wp (most := 30) hl hy ?_
  rw [ret_iter_lst, w_for_nil]
  exact q
theorem checkshelf_wp {xs : List Str} (h : Shelf xs) (h1 : 1 ≤ xs.length) (h7 : xs.length ≤ 7) (q : P .non S) : Ret (f_check_shelf [tupD xs] S) P := by
  unfold f_check_shelf s_check_shelf
  walk_at "wp"
  refine isshelf_wp h h1 h7 ?_
  walk_at "wp"
  exact q
theorem checkasked_wp {xs ys : List Str} (h : Shelf xs) (h1 : 1 ≤ xs.length) (h7 : xs.length ≤ 7) (hl : ys.length ≤ 30) (hy : ∀ y ∈ ys, y ∈ xs) (q : P .non S) : Ret (f_check_asked [tupD xs, tupD ys] S) P := by
  unfold f_check_asked s_check_asked
  walk_at "wp"
  refine checkshelf_wp h h1 h7 ?_
  refine checkask_wp hl hy ?_
  exact q
theorem placein_wp {xs : List Str} {x : Str} (hl : xs.length ≤ 1000) (hx : x ∈ xs) (q : P (.int ((xs.idxOf x + 1 : Nat) : Int)) S) : Ret (f_place_in [tupD xs, .str x] S) P := by
  unfold f_place_in s_place_in
  walk_at "wp"
  show Ret (mIndex (tupD xs) [Dat.d x] S) _
  rw [ret_index (α := Str) (Nat.zero_le _) (line_big (by omega)) hx]
  walk_at "wp"
  exact q
theorem fronted_wp {xs : List Str} {b : Str} (hl : xs.length ≤ 1000) (q : P (tupD (front xs b)) S) : Ret (f_fronted [tupD xs, .str b] S) P := by
  have hf := List.length_filter_le (fun y => !decide (y = b)) xs
  unfold f_fronted s_fronted
  walk_at "wp"
  refine comp_pure (enc := Dat.d) (p := fun y => !decide (y = b)) (k := Dat.d) (fun y hy => ?_) (line_big (by omega)) ?_
  · walk_at "wp"
    rw [show D.str b = Dat.d b from rfl, ret_ne (α := Str) (by decide)]
    walk_at "wp"
    exact fun _ => trivial
  · walk_at "wp"
    rw [List.append_nil]
    exact ⟨line_big (by omega), q⟩
/-- the shelves at first and behind each asking -/
def along (s : List Str) (bs : List Str) : List (List Str) := (List.range (bs.length + 1)).map fun i => led s (bs.take i)
theorem led_snocV (s : List Str) : ∀ (w : List Str) (b : Str), led s (w ++ [b]) = front (led s w) b := by
  intro w
  induction w generalizing s with
  | nil => intro b; rfl
  | cons c w ih => intro b; exact ih (front s c) b
theorem led_take {s bs : List Str} {i : Nat} {b : Str} (h : bs[i]? = some b) : led s (bs.take (i + 1)) = front (led s (bs.take i)) b := by
  rw [List.take_succ, h]
  exact led_snocV s _ b
theorem cel_back {T : Sto} {c : List D} : (T ++ [some c])[T.length]? = some (some c) := by
  rw [List.getElem?_append_right (Nat.le_refl _), Nat.sub_self]; rfl
theorem cel_put {T : Sto} {c c' : Option (List D)} : (T ++ [c]).set T.length c' = T ++ [c'] := by
  rw [List.set_append_right _ _ (Nat.le_refl _), Nat.sub_self]; rfl
theorem map_last {α : Type} [Dat α] (n : Nat) (f : Nat → α) : atI ((List.range (n + 1)).map fun i => Dat.d (f i)) (-1) = some (Dat.d (f n)) := by
  rw [List.range_succ, List.map_append]
  exact atI_last _ _
theorem ledlen {s : List Str} {bs : List Str} (hn : s.Nodup) (hb : ∀ b ∈ bs, b ∈ s) (i : Nat) : (led s (bs.take i)).Perm s := led_perm _ hn fun b h => hb b (List.mem_of_mem_take h)
theorem shelvesby_wp {s bs : List Str} (hn : s.Nodup) (hl : s.length ≤ 1000) (hl2 : bs.length ≤ 1000) (hb : ∀ b ∈ bs, b ∈ s) (q : ∀ S', Same S S' → P (.lst ((along s bs).map Dat.d)) S') : Ret (f_shelves_by [tupD s, tupD bs] S) P := by
  unfold f_shelves_by s_shelves_by
  walk_at "wp"
  refine ⟨line_big (by decide), ?_⟩
  refine for_wp (fun i en st => (∃ a, en = [some (tupD s), some (tupD bs), some (.cel S.length), a]) ∧ st = S ++ [some ((List.range (i + 1)).map fun j => Dat.d (led s (bs.take j)))]) _ 0 _ _ ⟨⟨none, rfl⟩, rfl⟩ ?_ ?_
  · rintro i d en st hd ⟨⟨a, rfl⟩, rfl⟩
    rw [List.getElem?_map, Option.map_eq_some_iff] at hd
    obtain ⟨b, hbi, rfl⟩ := hd
    have hi := (List.getElem?_eq_some_iff.mp hbi).1
    rw [Nat.zero_add]
    walk_at "wp"
    rw [live_cel cel_back, ret_ix_cel cel_back, map_last]
    have hp := (ledlen hn hb i).length_eq
    refine fronted_wp (by omega) ?_
    rw [ret_append cel_back]
    refine ⟨by rw [List.length_map, List.length_range]; unfold LINE; omega, ⟨_, rfl⟩, ?_⟩
    rw [cel_put]
    congr 1
    show [some _] = [some _]
    congr 2
    rw [List.range_succ (n := i + 1), List.map_append, ← led_take hbi]
    rfl
  · rintro en st ⟨⟨a, rfl⟩, rfl⟩
    rw [Nat.zero_add, List.length_map]
    walk_at "wp"
    rw [cel_back]
    simp only [Option.join_some]
    rw [cel_put]
    have e : (List.range (bs.length + 1)).map (fun j => Dat.d (led s (bs.take j))) = (along s bs).map Dat.d := by
      unfold along
      rw [List.map_map]
      rfl
    rw [e]
    exact q _ (same_app _ _)
/-! ### costs -/
/-- what each asking costs -/
def codeR (s : List Str) : List Str → List Int
  | [] => []
  | b :: bs => ((s.idxOf b + 1 : Nat) : Int) :: codeR (front s b) bs
theorem codeR_len : ∀ (bs : List Str) (s : List Str), (codeR s bs).length = bs.length
  | [], _ => rfl
  | b :: bs, s => by
    unfold codeR
    rw [List.length_cons, List.length_cons, codeR_len bs]
theorem codeR_get : ∀ (bs : List Str) (s : List Str) (i : Nat) (b : Str), bs[i]? = some b → (codeR s bs)[i]? = some (((led s (bs.take i)).idxOf b + 1 : Nat) : Int)
  | c :: bs, s, 0, b, h => by
    cases h
    rfl
  | c :: bs, s, i + 1, b, h => by
    have h : bs[i]? = some b := by simpa using h
    exact codeR_get bs (front s c) i b h
theorem codeR_snoc : ∀ (bs : List Str) (s : List Str) (b : Str), codeR s (bs ++ [b]) = codeR s bs ++ [(((led s bs).idxOf b + 1 : Nat) : Int)]
  | [], s, b => rfl
  | c :: bs, s, b => by
    show _ :: codeR (front s c) (bs ++ [b]) = _
    rw [codeR_snoc bs (front s c) b]
    rfl
theorem along_cons (s : List Str) (b : Str) (bs : List Str) : along s (b :: bs) = s :: along (front s b) bs := by
  unfold along
  rw [List.length_cons, List.range_succ_eq_map, List.map_cons, List.map_map]
  rfl
theorem code_zip : ∀ (bs : List Str) (s : List Str), ((along s bs).zip bs).map (fun p => ((p.1.idxOf p.2 + 1 : Nat) : Int)) = codeR s bs
  | [], s => by simp [codeR]
  | b :: bs, s => by
    rw [along_cons, List.zip_cons_cons, List.map_cons, code_zip bs]
    rfl
section
variable {α β : Type} [Dat α] [Dat β]
abbrev encZ (p : α × β) : D := .wtup [Dat.d p.1, Dat.d p.2]
theorem pairZ : ∀ (xs : List α) (ys : List β), pairUp (xs.map Dat.d) (ys.map Dat.d) = (xs.zip ys).map encZ
  | [], _ => rfl
  | _ :: _, [] => rfl
  | x :: xs, y :: ys => by
    rw [List.map_cons, List.map_cons, pairUp_cons, pairZ xs ys, List.zip_cons_cons, List.map_cons]
theorem ret_zipl {PL : List D → Sto → Prop} {xs : List α} {ys : List β} : Ret (mZip [.lst (xs.map Dat.d), tupD ys] S) PL = PL ((xs.zip ys).map encZ) S := by
  rw [show mZip [.lst (xs.map Dat.d), tupD ys] S = .ok (pairUp (xs.map Dat.d) (ys.map Dat.d)) S from rfl, ret_ok, pairZ]
theorem ret_zipt {PL : List D → Sto → Prop} {xs : List α} {ys : List β} : Ret (mZip [tupD xs, tupD ys] S) PL = PL ((xs.zip ys).map encZ) S := by
  rw [show mZip [tupD xs, tupD ys] S = .ok (pairUp (xs.map Dat.d) (ys.map Dat.d)) S from rfl, ret_ok, pairZ]
theorem ret_count_lst {x : α} {xs : List α} (hd : Dat.dep α ≤ 60) (hl : xs.length ≤ LINE) : Ret (mCount (.lst (xs.map Dat.d)) [Dat.d x] S) P = P (.int (xs.count x : Nat)) S := by
  unfold mCount pyFind arg1
  simp only [seqOf, listOf, Option.bind_some]
  rw [pyOf_d, pys_map]
  simp only [count_eqv, List.length_map]
  rw [if_pos]
  · rw [ret_ok]
  · have := Dat.hdep x; exact ⟨by omega, hl⟩
end
theorem along_mem {s bs : List Str} (hn : s.Nodup) (hb : ∀ b ∈ bs, b ∈ s) {r : List Str} (h : r ∈ along s bs) : r.Perm s := by
  obtain ⟨i, _, rfl⟩ := List.mem_map.mp h
  exact ledlen hn hb i
theorem along_len (s bs : List Str) : (along s bs).length = bs.length + 1 := by
  unfold along
  rw [List.length_map, List.length_range]
theorem codeby_wp {s bs : List Str} (hn : s.Nodup) (hl : s.length ≤ 1000) (hl2 : bs.length ≤ 1000) (hb : ∀ b ∈ bs, b ∈ s) (q : ∀ S', Same S S' → P (.lst ((codeR s bs).map D.int)) S') : Ret (f_code_by [tupD s, tupD bs] S) P := by
  unfold f_code_by s_code_by
  walk_at "wp"
  refine shelvesby_wp hn hl hl2 hb fun S1 h1 => ?_
  rw [ret_zipl]
  refine comp_all (enc := encZ) (k := fun p => D.int ((p.1.idxOf p.2 + 1 : Nat) : Int)) (fun p hp S2 h2 => ?_) (line_big ?_) fun S2 h2 => ?_
  · have hp1 := along_mem hn hb (List.of_mem_zip hp).1
    have hp2 := hb _ (List.of_mem_zip hp).2
    walk_at "wp"
    show Ret (f_place_in [tupD p.1, .str p.2] S2) _
    refine placein_wp (by rw [hp1.length_eq]; exact hl) (hp1.mem_iff.mpr hp2) ⟨h2, rfl⟩
  · rw [List.length_zip, along_len]; omega
  · have e : ((along s bs).zip bs).map (fun p => D.int ((p.1.idxOf p.2 + 1 : Nat) : Int)) = (codeR s bs).map D.int := by
      rw [← code_zip, List.map_map]
      rfl
    rw [e]
    exact q S2 (h1.trans h2)
theorem code_wp {s bs : List Str} (h : Shelf s) (h1 : 1 ≤ s.length) (h7 : s.length ≤ 7) (hl2 : bs.length ≤ 30) (hb : ∀ b ∈ bs, b ∈ s) (q : ∀ S', Same S S' → P (tupD (codeR s bs)) S') : Ret (f_code [tupD s, tupD bs] S) P := by
  unfold f_code s_code
  walk_at "wp"
  refine checkasked_wp h h1 h7 hl2 hb ?_
  refine codeby_wp h.1 (by omega) (by omega) hb fun S1 e1 => ?_
  walk_at "wp"
  refine ⟨line_big (by rw [codeR_len]; omega), q S1 e1⟩
theorem lawcode_wp {s bs : List Str} (hn : s.Nodup) (hl : s.length ≤ 1000) (hl2 : bs.length ≤ 1000) (hb : ∀ b ∈ bs, b ∈ s) (q : P (tupD (codeR s bs)) S) : Ret (f_x_law_code [tupD s, tupD bs] S) P := by
  unfold f_x_law_code s_x_law_code
  walk_at "wp"
  refine ⟨Nat.zero_le _, ?_⟩
  refine for_wp (fun i en st => st = S ∧ ∃ a, en = [some (tupD (led s (bs.take i))), some (tupD bs), some (tupD (codeR s (bs.take i))), a]) _ 0 _ _ ⟨rfl, none, rfl⟩ ?_ ?_
  · rintro i d en st hd ⟨rfl, a, rfl⟩
    rw [List.getElem?_map, Option.map_eq_some_iff] at hd
    obtain ⟨b, hbi, rfl⟩ := hd
    have hi := (List.getElem?_eq_some_iff.mp hbi).1
    have hp := ledlen hn hb i
    have hpl := hp.length_eq
    rw [Nat.zero_add]
    walk_at "wp"
    show Ret (mIndex (tupD (led s (bs.take i))) [Dat.d b] st) _
    rw [ret_index (α := Str) (Nat.zero_le _) (line_big (by omega)) (hp.mem_iff.mpr (hb b (List.mem_of_getElem? hbi)))]
    walk_at "wp"
    refine ⟨line_big (by decide), line_big (by rw [codeR_len, List.length_take]; omega), ?_⟩
    refine asked_wp (by omega) ⟨rfl, some (Dat.d b), ?_⟩
    have e1 : codeR s (bs.take (i + 1)) = codeR s (bs.take i) ++ [(((led s (bs.take i)).idxOf b + 1 : Nat) : Int)] := by
      rw [List.take_succ, hbi]
      exact codeR_snoc _ _ _
    rw [led_take hbi, e1]
    show _ = [some (tupD (front (led s (bs.take i)) b)), some (tupD bs), some (D.tup (List.map Dat.d (codeR s (bs.take i) ++ [(((led s (bs.take i)).idxOf b + 1 : Nat) : Int)]))), some (Dat.d b)]
    rw [List.map_append]
    rfl
  · rintro en st ⟨rfl, a, rfl⟩
    rw [Nat.zero_add, List.length_map, List.take_length]
    walk_at "wp"
    exact q
end
end VL
/-! VM13: repr; lists compared; enumerate. -/
namespace VL
open PySem PySem.Spec PyProof.Rows L2 Sh
section
variable {S : Sto} {P : D → Sto → Prop} {α : Type} [Dat α]
theorem ret_repr {d : D} {p : PyData} (h : pyOf S d = some p) (c1 : p.showable = true) (c2 : p.hasDict = false) (c3 : p.depth ≤ 60) (c4 : p.leavesShort 20 = true) (c5 : p.weight ≤ 100000) : Ret (mRepr [d] S) P = P (.str p.shown) S := by
  have hl := PyData.shown_le 20 (by decide) p c4
  have e : mRepr [d] S = .ok (.str p.shown) S := by
    unfold mRepr arg1
    simp only [h]
    rw [if_pos ⟨c1, c2, c3, line_big (by omega)⟩]
  rw [e, ret_ok]
theorem py_lst (xs : List α) : pyOf S (.lst (xs.map Dat.d)) = some (.list (xs.map Dat.py)) := by
  show (pys (xs.map Dat.d)).map PyData.list = _
  rw [pys_map]
  rfl
theorem ret_eql {xs ys : List α} (hd : Dat.dep α + 1 ≤ 60) : Ret (mEq (.lst (xs.map Dat.d)) (.lst (ys.map Dat.d)) S) P = P (.bl (decide (xs = ys))) S := by
  have hq : PyData.eqv (.list (xs.map Dat.py)) (.list (ys.map Dat.py)) = decide (xs = ys) := eqvAll_map xs ys
  have e1 : mEq (.lst (xs.map Dat.d)) (.lst (ys.map Dat.d)) S = .ok (.bl (decide (xs = ys))) S := by
    unfold mEq
    rw [py_lst, py_lst]
    have hd2 : (PyData.list (xs.map Dat.py)).depth ≤ Dat.dep α + 1 := Nat.succ_le_succ (depthAll_map xs)
    simp only [hq]
    rw [if_pos (by omega)]
  rw [e1, ret_ok]
theorem ret_nel {xs ys : List α} (hd : Dat.dep α + 1 ≤ 60) : Ret (mNe (.lst (xs.map Dat.d)) (.lst (ys.map Dat.d)) S) P = P (.bl (!decide (xs = ys))) S := by
  have hq : PyData.eqv (.list (xs.map Dat.py)) (.list (ys.map Dat.py)) = decide (xs = ys) := eqvAll_map xs ys
  have e1 : mNe (.lst (xs.map Dat.d)) (.lst (ys.map Dat.d)) S = .ok (.bl (!decide (xs = ys))) S := by
    unfold mNe
    rw [py_lst, py_lst]
    have hd2 : (PyData.list (xs.map Dat.py)).depth ≤ Dat.dep α + 1 := Nat.succ_le_succ (depthAll_map xs)
    simp only [hq]
    rw [if_pos (by omega)]
  rw [e1, ret_ok]
theorem ret_notin_l {x : α} {xs : List α} (hd : Dat.dep α ≤ 60) : Ret (mIn true (Dat.d x) (.lst (xs.map Dat.d)) S) P = P (.bl (!decide (x ∈ xs))) S := by
  unfold mIn
  simp only []
  rw [pyOf_d, py_lst]
  simp only [Option.map_some, any_eqv]
  rw [if_pos]
  · rw [ret_ok]; rfl
  · have := Dat.hdep x; omega
theorem ret_in_l {x : α} {xs : List α} (hd : Dat.dep α ≤ 60) : Ret (mIn false (Dat.d x) (.lst (xs.map Dat.d)) S) P = P (.bl (decide (x ∈ xs))) S := by
  unfold mIn
  simp only []
  rw [pyOf_d, py_lst]
  simp only [Option.map_some, any_eqv]
  rw [if_pos]
  · rw [ret_ok]; rfl
  · have := Dat.hdep x; omega
theorem cut_takeA {ds : List D} {k : Nat} : VL.cutD ds none (some (k : Int)) = ds.take k := by
  unfold VL.cutD
  rw [HT.sIx_nat, HT.sIx_none]
  simp only [List.drop_zero, Nat.sub_zero]
  apply List.ext_getElem?
  intro i
  simp only [List.getElem?_take]
  by_cases h : i < k
  · by_cases h2 : i < ds.length
    · rw [if_pos (by omega), if_pos h]
    · rw [if_neg (by omega), if_pos h, List.getElem?_eq_none (by omega)]
  · rw [if_neg (by omega), if_neg h]
theorem cut_dropA {ds : List D} {k : Nat} : VL.cutD ds (some (k : Int)) none = ds.drop k := by
  unfold VL.cutD
  rw [HT.sIx_nat, HT.sIx_none]
  by_cases h : k ≤ ds.length
  · rw [Nat.min_eq_left h]
    exact List.take_of_length_le (by simp)
  · rw [Nat.min_eq_right (by omega), List.drop_of_length_le (Nat.le_refl _), List.drop_of_length_le (by omega)]
    simp
/-- enumerate, by indexes -/
theorem enum_eq (z : α) (xs : List α) : pairUp (nums 0 xs.length) (xs.map Dat.d) = (List.range xs.length).map fun i => D.wtup [.int (i : Nat), Dat.d (xs.getD i z)] := by
  apply List.ext_getElem?
  intro i
  unfold pairUp nums
  rw [List.getElem?_map, List.getElem?_map]
  by_cases h : i < xs.length
  · rw [List.getElem?_range h]
    have e : (List.zip ((List.range xs.length).map fun i : Nat => D.int (0 + (i : Int))) (xs.map Dat.d))[i]? = some (.int (0 + (i : Int)), Dat.d xs[i]) := by
      rw [List.getElem?_zip_eq_some]
      constructor
      · rw [List.getElem?_map, List.getElem?_range h]; rfl
      · rw [List.getElem?_map, List.getElem?_eq_getElem h]; rfl
    rw [e]
    simp only [Option.map_some, Int.zero_add]
    rw [List.getD_eq_getElem?_getD, List.getElem?_eq_getElem h]
    rfl
  · rw [List.getElem?_eq_none (by simp; omega), List.getElem?_eq_none (by simp; omega)]
    rfl
theorem ret_enumt (z : α) {PL : List D → Sto → Prop} {xs : List α} : Ret (mEnum [tupD xs] S) PL = PL ((List.range xs.length).map fun i => D.wtup [.int (i : Nat), Dat.d (xs.getD i z)]) S := by
  rw [show mEnum [tupD xs] S = .ok (pairUp (nums 0 (xs.map Dat.d).length) (xs.map Dat.d)) S from rfl, ret_ok, List.length_map, enum_eq z xs]
theorem weightAll_le {c : Nat} : ∀ ps : List PyData, (∀ p ∈ ps, p.weight ≤ c) → PyData.weightAll ps ≤ ps.length * (c + 1)
  | [], _ => by simp [PyData.weightAll]
  | p :: ps, h => by
    have h1 := h p List.mem_cons_self
    have h2 := weightAll_le ps fun q hq => h q (List.mem_cons_of_mem _ hq)
    simp only [PyData.weightAll, List.length_cons, Nat.add_mul, Nat.one_mul]
    omega
/-- what can be shown shortly -/
structure Shw (p : PyData) (c : Nat) : Prop where
  s : p.showable = true
  d : p.hasDict = false
  l : p.leavesShort 20 = true
  w : p.weight ≤ c
theorem shw_all {c : Nat} : ∀ ps : List PyData, (∀ p ∈ ps, Shw p c) → PyData.showableAll ps = true ∧ PyData.hasDictAll ps = false ∧ PyData.leavesShortAll 20 ps = true
  | [], _ => ⟨rfl, rfl, rfl⟩
  | p :: ps, h => by
    have h1 := h p List.mem_cons_self
    obtain ⟨a, b, e⟩ := shw_all ps fun q hq => h q (List.mem_cons_of_mem _ hq)
    simp only [PyData.showableAll, PyData.hasDictAll, PyData.leavesShortAll, h1.s, h1.d, h1.l, a, b, e]
    exact ⟨rfl, rfl, rfl⟩
theorem Shw.tup {c : Nat} {ps : List PyData} (h : ∀ p ∈ ps, Shw p c) : Shw (.tuple ps) (ps.length * (c + 1)) := by
  obtain ⟨a, b, e⟩ := shw_all ps h
  refine ⟨by simpa only [PyData.showable] using a, by simpa only [PyData.hasDict] using b, by simpa only [PyData.leavesShort] using e, ?_⟩
  have := weightAll_le ps fun p hp => (h p hp).w
  simpa only [PyData.weight] using this
theorem Shw.lst {c : Nat} {ps : List PyData} (h : ∀ p ∈ ps, Shw p c) : Shw (.list ps) (ps.length * (c + 1)) := by
  obtain ⟨a, b, e⟩ := shw_all ps h
  refine ⟨by simpa only [PyData.showable] using a, by simpa only [PyData.hasDict] using b, by simpa only [PyData.leavesShort] using e, ?_⟩
  have := weightAll_le ps fun p hp => (h p hp).w
  simpa only [PyData.weight] using this
theorem small_int : ∀ i : Nat, i < 40 → Shw (.int (i : Int)) 8 := by
  intro i hi
  have h : ∀ i : Nat, i < 40 → ((PyData.shown (.int (i : Int))).length ≤ 20 ∧ (PyData.int (i : Int)).showable = true ∧ (PyData.int (i : Int)).weight ≤ 8) := by decide +kernel
  obtain ⟨h1, h2, h3⟩ := h i hi
  refine ⟨h2, rfl, by simpa only [PyData.leavesShort, decide_eq_true_eq] using h1, h3⟩
theorem nm_shw {z : Str} (h : Nm z) : Shw (.str z) 8 := by
  refine ⟨rfl, rfl, ?_, ?_⟩
  · simp only [PyData.leavesShort, List.all_eq_true, decide_eq_true_eq]
    intro c hc
    have := h.1 c hc
    unfold okC at this
    omega
  · simp only [PyData.weight]
    exact h.2.2.1
/-- repr([t, t]) -/
theorem repr_two {xs : List α} (h : ∀ x ∈ xs, Shw (Dat.py x) 8) (hl : xs.length ≤ 1000) (hd : Dat.dep α ≤ 50) : Ret (mRepr [.lst [tupD xs, tupD xs]] S) P = P (.str (PyData.list [.tuple (xs.map Dat.py), .tuple (xs.map Dat.py)]).shown) S := by
  have e : pyOf S (.lst [tupD xs, tupD xs]) = some (.list [.tuple (xs.map Dat.py), .tuple (xs.map Dat.py)]) := py_lst (α := List α) [xs, xs]
  have h1 : Shw (.tuple (xs.map Dat.py)) ((xs.map Dat.py).length * (8 + 1)) := Shw.tup fun p hp => by
    obtain ⟨x, hx, rfl⟩ := List.mem_map.mp hp
    exact h x hx
  rw [List.length_map] at h1
  have h2 : Shw (.list [.tuple (xs.map Dat.py), .tuple (xs.map Dat.py)]) (2 * (xs.length * (8 + 1) + 1)) := Shw.lst fun p hp => by
    simp at hp
    rw [hp]
    exact h1
  have dp : (PyData.list [.tuple (xs.map Dat.py), .tuple (xs.map Dat.py)]).depth ≤ 60 := by
    have h3 : PyData.depthAll ([xs, xs].map Dat.py) ≤ Dat.dep (List α) := depthAll_map [xs, xs]
    have h4 : (PyData.list [.tuple (xs.map Dat.py), .tuple (xs.map Dat.py)]).depth = PyData.depthAll ([xs, xs].map Dat.py) + 1 := rfl
    have h5 : Dat.dep (List α) = Dat.dep α + 1 := rfl
    omega
  exact ret_repr e h2.s h2.d dp h2.l (by have := h2.w; omega)
theorem ret_ne_same {x : Str} : Ret (mNe (.str x) (.str x) S) P = P (.bl false) S := by
  rw [show Ret (mNe (.str x) (.str x) S) P = Ret (mNe (Dat.d x) (Dat.d x) S) P from rfl, ret_ne (α := Str) (Nat.zero_le _)]
  simp
end
end VL
namespace K73
open PySem PySem.Spec PyProof.Rows L2 VL Sh
def top (i : Nat) : Stmt := PySem.Challenge.pw_frontshelf_k73_whole_askings_left_out.main.body.getD i (.Pass ⟨0, 0, 0, 0⟩)
structure Mod (K : PySem.W.Frag) (mg : Str → Option Value) : Prop where
  abs_ : mg "abs" = none
  all_ : mg "all" = none
  divmod_ : mg "divmod" = none
  enumerate_ : mg "enumerate" = none
  int_ : mg "int" = none
  isinstance_ : mg "isinstance" = none
  len_ : mg "len" = none
  list_ : mg "list" = none
  max_ : mg "max" = none
  min_ : mg "min" = none
  range_ : mg "range" = none
  repr_ : mg "repr" = none
  sorted_ : mg "sorted" = none
  str_ : mg "str" = none
  tuple_ : mg "tuple" = none
  MOST_ASKINGS_ : ∃ t, mg "MOST_ASKINGS" = some (.int 30 t)
  MOST_BOOKS_ : ∃ t, mg "MOST_BOOKS" = some (.int 7 t)
  MOST_SIGNS_ : ∃ t, mg "MOST_SIGNS" = some (.int 8 t)
  SMALL_ : ∃ t, mg "SMALL" = some (.str "abcdefghijklmnopqrstuvwxyz" t)
  WORDS_ : ∃ a, mg "WORDS" = some (.ref a) ∧ ∀ H, SqT K H a (c_WORDS.map V.str)
section
variable {TL : List (Addr × Str)} {P : Program} {w : World} {K : PySem.W.Frag} {mg : Str → Option Value} {base : Heap} {f : Addr} {fd : FuncData}
abbrev d_x_law_dip : He.DefD := ⟨("_law_dip", none), "_law_dip", "_law_dip", defArgs (top 32), defBody (top 32), defScope (top 32), [], []⟩
abbrev ps_x_law_dip : List Str := ["well", "many"]
theorem pos_x_law_dip : PosOk d_x_law_dip ps_x_law_dip := fun kV doc pm an cdv ct us hl => match us, hl with | [_, _], _ => rfl
theorem sc_x_law_dip : FnScope ["well", "many", "digit"] ps_x_law_dip (defScope (top 32)) := ⟨by rfl, by rfl, by rfl, by decide +kernel, by rfl, by decide +kernel, by decide +kernel⟩
theorem w_x_law_dip (Md : Mod K mg) (hm : mg "_law_dip" = some (.ref f)) (F : FunD K "_law_dip" "_law_dip" (defArgs (top 32)) (defBody (top 32)) (defScope (top 32)) [] [] f fd) : Has (tabT TL) P w K mg base 1 d_x_law_dip ps_x_law_dip f_x_law_dip := by
  have nd := sc_x_law_dip.nd
  exact Has.of (N := ["well", "many", "digit"]) (g := s_x_law_dip) hm F sc_x_law_dip fun cdv A outer s H hr => sv_cons (sv_if (tv_cmp op_mGt (ev_sub (ev_var 0) (ev_int)) (ev_int) (by rfl)) (sv_cons (sv_asg (ev_bi cr_divmodM (by rfl) Md.divmod_ (by rfl) (av_cons (ev_sub (ev_var 0) (ev_int)) (av_cons (ev_var 1) (av_nil)))) (gv_tup rfl (gsv_cons (gv_ix (ev_var 0) (ev_int)) (gsv_cons (gv_name nd) (gsv_nil (ks := [])))))) (sv_one (sv_ret (ev_var 2)))) (sv_nil)) (sv_cons (sv_asg (ev_op op_mAdd (ev_sub (ev_var 0) (ev_int)) (ev_int)) (gv_ix (ev_var 0) (ev_int))) (sv_cons (sv_asg (ev_op op_mMod (ev_ty cr_intM (by rfl) Md.int_ (by rfl) (av_cons (ev_op op_mAdd (ev_op op_mAdd (ev_op op_mMul (ev_sub (ev_var 0) (ev_int)) (ev_int)) (ev_op op_mMul (ev_int) (ev_sub (ev_var 0) (ev_int)))) (ev_int)) (av_nil))) (ev_int)) (gv_ix (ev_var 0) (ev_int))) (sv_one (sv_ret (ev_op op_mMod (ev_ty cr_intM (by rfl) Md.int_ (by rfl) (av_cons (ev_op op_mFdiv (ev_sub (ev_var 0) (ev_int)) (ev_int)) (av_nil))) (ev_var 1))))))
abbrev d_x_law_one : He.DefD := ⟨("_law_one", none), "_law_one", "_law_one", defArgs (top 33), defBody (top 33), defScope (top 33), [], []⟩
abbrev ps_x_law_one : List Str := ["well", "some"]
theorem pos_x_law_one : PosOk d_x_law_one ps_x_law_one := fun kV doc pm an cdv ct us hl => match us, hl with | [_, _], _ => rfl
theorem sc_x_law_one : FnScope ["well", "some"] ps_x_law_one (defScope (top 33)) := ⟨by rfl, by rfl, by rfl, by decide +kernel, by rfl, by decide +kernel, by decide +kernel⟩
theorem w_x_law_one (Md : Mod K mg) (h_x_law_dip : Has (tabT TL) P w K mg base 1 d_x_law_dip ps_x_law_dip f_x_law_dip) (hm : mg "_law_one" = some (.ref f)) (F : FunD K "_law_one" "_law_one" (defArgs (top 33)) (defBody (top 33)) (defScope (top 33)) [] [] f fd) : Has (tabT TL) P w K mg base 2 d_x_law_one ps_x_law_one f_x_law_one := by
  have nd := sc_x_law_one.nd
  exact Has.of (N := ["well", "some"]) (g := s_x_law_one) hm F sc_x_law_one fun cdv A outer s H hr => sv_one (sv_ret (ev_sub (ev_var 1) (ev_f (h_x_law_dip.mono (by decide)) hr (by rfl) rfl pos_x_law_dip (av_cons (ev_var 0) (av_cons (ev_bi cr_len (by rfl) Md.len_ (by rfl) (av_cons (ev_var 1) (av_nil))) (av_nil))))))
abbrev d_x_law_words : He.DefD := ⟨("_law_words", none), "_law_words", "_law_words", defArgs (top 35), defBody (top 35), defScope (top 35), [], []⟩
abbrev ps_x_law_words : List Str := ["well", "many"]
theorem pos_x_law_words : PosOk d_x_law_words ps_x_law_words := fun kV doc pm an cdv ct us hl => match us, hl with | [_, _], _ => rfl
theorem sc_x_law_words : FnScope ["well", "many", "taken", "k", "letters", "found", "word", "some", "turn", "sign", "each"] ps_x_law_words (defScope (top 35)) := ⟨by rfl, by rfl, by rfl, by decide +kernel, by rfl, by decide +kernel, by decide +kernel⟩
theorem w_x_law_words (Md : Mod K mg) (h_x_law_one : Has (tabT TL) P w K mg base 2 d_x_law_one ps_x_law_one f_x_law_one) (h_x_law_dip : Has (tabT TL) P w K mg base 1 d_x_law_dip ps_x_law_dip f_x_law_dip) (hm : mg "_law_words" = some (.ref f)) (F : FunD K "_law_words" "_law_words" (defArgs (top 35)) (defBody (top 35)) (defScope (top 35)) [] [] f fd) : Has (tabT TL) P w K mg base 3 d_x_law_words ps_x_law_words f_x_law_words := by
  have nd := sc_x_law_words.nd
  exact Has.of (N := ["well", "many", "taken", "k", "letters", "found", "word", "some", "turn", "sign", "each"]) (g := s_x_law_words) hm F sc_x_law_words fun cdv A outer s H hr => sv_cons (sv_asg (ev_tup (av_cons (ev_str) (av_cons (ev_lstC (av_nil)) (av_nil)))) (gv_tup rfl (gsv_cons (gv_name nd) (gsv_cons (gv_name nd) (gsv_nil (ks := [])))))) (sv_cons (sv_set nd (ev_lst (av_cons (ev_str) (av_cons (ev_str) (av_cons (ev_str) (av_cons (ev_str) (av_cons (ev_str) (av_cons (ev_str) (av_cons (ev_str) (av_cons (ev_str) (av_cons (ev_str) (av_cons (ev_str) (av_cons (ev_str) (av_cons (ev_str) (av_cons (ev_str) (av_nil)))))))))))))))) (sv_cons (sv_set nd (ev_op op_mAdd (ev_var 2) (ev_lst (av_cons (ev_str) (av_nil))))) (sv_cons (sv_set nd (ev_op op_mAdd (ev_var 2) (ev_lst (av_cons (ev_str) (av_cons (ev_str) (av_cons (ev_str) (av_cons (ev_str) (av_cons (ev_str) (av_cons (ev_str) (av_cons (ev_str) (av_cons (ev_str) (av_cons (ev_str) (av_cons (ev_str) (av_cons (ev_str) (av_cons (ev_str) (av_nil)))))))))))))))) (sv_cons (sv_set nd (ev_op op_mAdd (ev_var 2) (ev_lst (av_cons (ev_str) (av_nil))))) (sv_cons (sv_set nd (ev_op op_mAdd (ev_var 2) (ev_lst (av_cons (ev_str) (av_cons (ev_str) (av_cons (ev_str) (av_cons (ev_str) (av_cons (ev_str) (av_cons (ev_str) (av_cons (ev_str) (av_cons (ev_str) (av_cons (ev_str) (av_nil))))))))))))) (sv_cons (sv_for PassesOwn.never rfl (iv_range1 (by rfl) Md.range_ (av_cons (ev_var 1) (av_nil))) (gv_name nd) (sv_cons (sv_set nd (ev_meth mv_join (ev_str) (av_cons (ev_comp (own := [("turn", 8)]) rfl nd (iv_range1 (by rfl) Md.range_ (av_cons (ev_op op_mAdd (ev_int) (ev_f (h_x_law_dip.mono (by decide)) hr (by rfl) rfl pos_x_law_dip (av_cons (ev_var 0) (av_cons (ev_f (h_x_law_one.mono (by decide)) hr (by rfl) rfl pos_x_law_one (av_cons (ev_var 0) (av_cons (ev_lst (av_cons (ev_int) (av_cons (ev_int) (av_cons (ev_int) (av_nil))))) (av_nil)))) (av_nil))))) (av_nil))) (blkOk_by (by kernel_rfl)) (fun _ _ _ _ _ => gv_name nd) (fun _ _ _ _ _ => ifs_none) (fun _ _ _ _ _ => ev_f (h_x_law_one.mono (by decide)) hr (by rfl) rfl pos_x_law_one (av_cons (ev_var 0) (av_cons (ev_var 4) (av_nil))))) (av_nil)))) (sv_cons (sv_set nd (ev_op op_mAdd (ev_op op_mAdd (ev_lst (av_cons (ev_var 6) (av_nil))) (ev_comp (own := [("sign", 9)]) rfl nd (iv_seq (ev_var 4)) (blkOk_by (by kernel_rfl)) (fun _ _ _ _ _ => gv_name nd) (fun _ _ _ _ _ => ifs_none) (fun _ _ _ _ _ => ev_op op_mAdd (ev_op op_mAdd (ev_slice (ev_var 6) (ov_none) (ov_some (ev_int))) (ev_var 9)) (ev_str)))) (ev_comp (own := [("sign", 9)]) rfl nd (iv_seq (ev_var 4)) (blkOk_by (by kernel_rfl)) (fun _ _ _ _ _ => gv_name nd) (fun _ _ _ _ _ => ifs_none) (fun _ _ _ _ _ => ev_op op_mAdd (ev_op op_mAdd (ev_slice (ev_var 6) (ov_none) (ov_some (ev_int))) (ev_var 9)) (ev_str))))) (sv_one (sv_expr (ev_meth mv_append (ev_var 5) (av_cons (ev_sub (ev_comp (own := [("each", 10)]) rfl nd (iv_seq (ev_var 7)) (blkOk_by (by kernel_rfl)) (fun _ _ _ _ _ => gv_name nd) (fun _ _ _ _ _ => ifs_one (tv_cmp (op_mNotIn hr.units) (ev_var 10) (ev_op op_mAdd (ev_var 5) (ev_var 2)) (by rfl))) (fun _ _ _ _ _ => ev_var 10)) (ev_int)) (av_nil)))))))) (ssv_fz 5 (sv_one (sv_ret (ev_var 5))))))))))
abbrev d_x_law_shelf : He.DefD := ⟨("_law_shelf", none), "_law_shelf", "_law_shelf", defArgs (top 36), defBody (top 36), defScope (top 36), [], []⟩
abbrev ps_x_law_shelf : List Str := ["well", "most"]
def s_x_law_shelf : SM := sRet (eCall mTuple (aCons (eCall (mArgs 2 f_x_law_words) (aCons (eVar 0) (aCons (e2 mAdd (eC (.int 1)) (eCall (mArgs 2 f_x_law_dip) (aCons (eVar 0) (aCons (eVar 1) (aNil))))) (aNil)))) (aNil)))
def f_x_law_shelf : List D → M D := fnD 2 s_x_law_shelf
theorem pos_x_law_shelf : PosOk d_x_law_shelf ps_x_law_shelf := fun kV doc pm an cdv ct us hl => match us, hl with | [_, _], _ => rfl
theorem sc_x_law_shelf : FnScope ["well", "most"] ps_x_law_shelf (defScope (top 36)) := ⟨by rfl, by rfl, by rfl, by decide +kernel, by rfl, by decide +kernel, by decide +kernel⟩
theorem w_x_law_shelf (Md : Mod K mg) (h_x_law_words : Has (tabT TL) P w K mg base 3 d_x_law_words ps_x_law_words f_x_law_words) (h_x_law_dip : Has (tabT TL) P w K mg base 1 d_x_law_dip ps_x_law_dip f_x_law_dip) (hm : mg "_law_shelf" = some (.ref f)) (F : FunD K "_law_shelf" "_law_shelf" (defArgs (top 36)) (defBody (top 36)) (defScope (top 36)) [] [] f fd) : Has (tabT TL) P w K mg base 4 d_x_law_shelf ps_x_law_shelf f_x_law_shelf := by
  have nd := sc_x_law_shelf.nd
  exact Has.of (N := ["well", "most"]) (g := s_x_law_shelf) hm F sc_x_law_shelf fun cdv A outer s H hr => sv_one (sv_ret (ev_ty cr_tupleM (by rfl) Md.tuple_ (by rfl) (av_cons (ev_f (h_x_law_words.mono (by decide)) hr (by rfl) rfl pos_x_law_words (av_cons (ev_var 0) (av_cons (ev_op op_mAdd (ev_int) (ev_f (h_x_law_dip.mono (by decide)) hr (by rfl) rfl pos_x_law_dip (av_cons (ev_var 0) (av_cons (ev_var 1) (av_nil))))) (av_nil)))) (av_nil))))
abbrev d_x_law_ask : He.DefD := ⟨("_law_ask", none), "_law_ask", "_law_ask", defArgs (top 38), defBody (top 38), defScope (top 38), [], []⟩
abbrev ps_x_law_ask : List Str := ["shelf", "book"]
theorem pos_x_law_ask : PosOk d_x_law_ask ps_x_law_ask := fun kV doc pm an cdv ct us hl => match us, hl with | [_, _], _ => rfl
theorem sc_x_law_ask : FnScope ["shelf", "book", "each"] ps_x_law_ask (defScope (top 38)) := ⟨by rfl, by rfl, by rfl, by decide +kernel, by rfl, by decide +kernel, by decide +kernel⟩
theorem w_x_law_ask (Md : Mod K mg) (hm : mg "_law_ask" = some (.ref f)) (F : FunD K "_law_ask" "_law_ask" (defArgs (top 38)) (defBody (top 38)) (defScope (top 38)) [] [] f fd) : Has (tabT TL) P w K mg base 1 d_x_law_ask ps_x_law_ask f_x_law_ask := by
  have nd := sc_x_law_ask.nd
  exact Has.of (N := ["shelf", "book", "each"]) (g := s_x_law_ask) hm F sc_x_law_ask fun cdv A outer s H hr => sv_one (sv_ret (ev_op op_mAdd (ev_tup (av_cons (ev_var 1) (av_nil))) (ev_ty cr_tupleM (by rfl) Md.tuple_ (by rfl) (av_cons (ev_comp (own := [("each", 2)]) rfl nd (iv_seq (ev_var 0)) (blkOk_by (by kernel_rfl)) (fun _ _ _ _ _ => gv_name nd) (fun _ _ _ _ _ => ifs_one (tv_cmp (op_mNe hr.units) (ev_var 2) (ev_var 1) (by rfl))) (fun _ _ _ _ _ => ev_var 2)) (av_nil)))))
abbrev d_x_law_led : He.DefD := ⟨("_law_led", none), "_law_led", "_law_led", defArgs (top 39), defBody (top 39), defScope (top 39), [], []⟩
abbrev ps_x_law_led : List Str := ["shelf", "askings"]
def s_x_law_led : SM := sSeq (sFor (iSeq (eVar 1)) (gN 2) (sAsg (eCall (mArgs 2 f_x_law_ask) (aCons (eVar 0) (aCons (eVar 2) (aNil)))) (gN 0))) (sRet (eVar 0))
def f_x_law_led : List D → M D := fnD 3 s_x_law_led
theorem pos_x_law_led : PosOk d_x_law_led ps_x_law_led := fun kV doc pm an cdv ct us hl => match us, hl with | [_, _], _ => rfl
theorem sc_x_law_led : FnScope ["shelf", "askings", "book"] ps_x_law_led (defScope (top 39)) := ⟨by rfl, by rfl, by rfl, by decide +kernel, by rfl, by decide +kernel, by decide +kernel⟩
theorem w_x_law_led (Md : Mod K mg) (h_x_law_ask : Has (tabT TL) P w K mg base 1 d_x_law_ask ps_x_law_ask f_x_law_ask) (hm : mg "_law_led" = some (.ref f)) (F : FunD K "_law_led" "_law_led" (defArgs (top 39)) (defBody (top 39)) (defScope (top 39)) [] [] f fd) : Has (tabT TL) P w K mg base 2 d_x_law_led ps_x_law_led f_x_law_led := by
  have nd := sc_x_law_led.nd
  exact Has.of (N := ["shelf", "askings", "book"]) (g := s_x_law_led) hm F sc_x_law_led fun cdv A outer s H hr => sv_cons (sv_for PassesOwn.never rfl (iv_seq (ev_var 1)) (gv_name nd) (sv_one (sv_set nd (ev_f (h_x_law_ask.mono (by decide)) hr (by rfl) rfl pos_x_law_ask (av_cons (ev_var 0) (av_cons (ev_var 2) (av_nil))))))) (sv_one (sv_ret (ev_var 0)))
abbrev d_x_law_ends : He.DefD := ⟨("_law_ends", none), "_law_ends", "_law_ends", defArgs (top 42), defBody (top 42), defScope (top 42), [], []⟩
abbrev ps_x_law_ends : List Str := ["shelves", "askings"]
def s_x_law_ends : SM := sRet (eComp [2] (iSeq (eVar 0)) (gN 2) (tYesM) (eCall (mArgs 2 f_x_law_led) (aCons (eVar 2) (aCons (eVar 1) (aNil)))))
def f_x_law_ends : List D → M D := fnD 3 s_x_law_ends
theorem pos_x_law_ends : PosOk d_x_law_ends ps_x_law_ends := fun kV doc pm an cdv ct us hl => match us, hl with | [_, _], _ => rfl
theorem sc_x_law_ends : FnScope ["shelves", "askings", "other"] ps_x_law_ends (defScope (top 42)) := ⟨by rfl, by rfl, by rfl, by decide +kernel, by rfl, by decide +kernel, by decide +kernel⟩
theorem w_x_law_ends (Md : Mod K mg) (h_x_law_led : Has (tabT TL) P w K mg base 2 d_x_law_led ps_x_law_led f_x_law_led) (hm : mg "_law_ends" = some (.ref f)) (F : FunD K "_law_ends" "_law_ends" (defArgs (top 42)) (defBody (top 42)) (defScope (top 42)) [] [] f fd) : Has (tabT TL) P w K mg base 3 d_x_law_ends ps_x_law_ends f_x_law_ends := by
  have nd := sc_x_law_ends.nd
  exact Has.of (N := ["shelves", "askings", "other"]) (g := s_x_law_ends) hm F sc_x_law_ends fun cdv A outer s H hr => sv_one (sv_ret (ev_comp (own := [("other", 2)]) rfl nd (iv_seq (ev_var 0)) (blkOk_by (by kernel_rfl)) (fun _ _ _ _ _ => gv_name nd) (fun _ _ _ _ _ => ifs_none) (fun _ _ _ _ _ => ev_f (h_x_law_led.mono (by decide)) hr (by rfl) rfl pos_x_law_led (av_cons (ev_var 2) (av_cons (ev_var 1) (av_nil))))))
abbrev d_x_law_asks : He.DefD := ⟨("_law_asks", none), "_law_asks", "_law_asks", defArgs (top 37), defBody (top 37), defScope (top 37), [], []⟩
abbrev ps_x_law_asks : List Str := ["well", "shelf", "most"]
theorem pos_x_law_asks : PosOk d_x_law_asks ps_x_law_asks := fun kV doc pm an cdv ct us hl => match us, hl with | [_, _, _], _ => rfl
theorem sc_x_law_asks : FnScope ["well", "shelf", "most", "some", "turn"] ps_x_law_asks (defScope (top 37)) := ⟨by rfl, by rfl, by rfl, by decide +kernel, by rfl, by decide +kernel, by decide +kernel⟩
theorem w_x_law_asks (Md : Mod K mg) (h_x_law_dip : Has (tabT TL) P w K mg base 1 d_x_law_dip ps_x_law_dip f_x_law_dip) (h_x_law_one : Has (tabT TL) P w K mg base 2 d_x_law_one ps_x_law_one f_x_law_one) (hm : mg "_law_asks" = some (.ref f)) (F : FunD K "_law_asks" "_law_asks" (defArgs (top 37)) (defBody (top 37)) (defScope (top 37)) [] [] f fd) : Has (tabT TL) P w K mg base 3 d_x_law_asks ps_x_law_asks f_x_law_asks := by
  have nd := sc_x_law_asks.nd
  exact Has.of (N := ["well", "shelf", "most", "some", "turn"]) (g := s_x_law_asks) hm F sc_x_law_asks fun cdv A outer s H hr => sv_cons (sv_set nd (ev_if (tv_cmp (op_mEq hr.units) (ev_f (h_x_law_dip.mono (by decide)) hr (by rfl) rfl pos_x_law_dip (av_cons (ev_var 0) (av_cons (ev_int) (av_nil)))) (ev_int) (by rfl)) (ev_slice (ev_var 1) (ov_none) (ov_some (ev_op op_mAdd (ev_int) (ev_f (h_x_law_dip.mono (by decide)) hr (by rfl) rfl pos_x_law_dip (av_cons (ev_var 0) (av_cons (ev_bi cr_len (by rfl) Md.len_ (by rfl) (av_cons (ev_var 1) (av_nil))) (av_nil))))))) (ev_var 1))) (sv_one (sv_ret (ev_ty cr_tupleM (by rfl) Md.tuple_ (by rfl) (av_cons (ev_comp (own := [("turn", 4)]) rfl nd (iv_range1 (by rfl) Md.range_ (av_cons (ev_f (h_x_law_dip.mono (by decide)) hr (by rfl) rfl pos_x_law_dip (av_cons (ev_var 0) (av_cons (ev_op op_mAdd (ev_var 2) (ev_int)) (av_nil)))) (av_nil))) (blkOk_by (by kernel_rfl)) (fun _ _ _ _ _ => gv_name nd) (fun _ _ _ _ _ => ifs_none) (fun _ _ _ _ _ => ev_f (h_x_law_one.mono (by decide)) hr (by rfl) rfl pos_x_law_one (av_cons (ev_var 0) (av_cons (ev_var 3) (av_nil))))) (av_nil)))))
abbrev d_x_law_orders : He.DefD := ⟨("_law_orders", none), "_law_orders", "_law_orders", defArgs (top 40), defBody (top 40), defScope (top 40), [], []⟩
abbrev ps_x_law_orders : List Str := ["some"]
theorem pos_x_law_orders : PosOk d_x_law_orders ps_x_law_orders := fun kV doc pm an cdv ct us hl => match us, hl with | [_], _ => rfl
theorem sc_x_law_orders : FnScope ["some", "found", "turn", "longer", "order", "each"] ps_x_law_orders (defScope (top 40)) := ⟨by rfl, by rfl, by rfl, by decide +kernel, by rfl, by decide +kernel, by decide +kernel⟩
theorem w_x_law_orders (Md : Mod K mg) (hm : mg "_law_orders" = some (.ref f)) (F : FunD K "_law_orders" "_law_orders" (defArgs (top 40)) (defBody (top 40)) (defScope (top 40)) [] [] f fd) : Has (tabT TL) P w K mg base 1 d_x_law_orders ps_x_law_orders f_x_law_orders := by
  have nd := sc_x_law_orders.nd
  exact Has.of (N := ["some", "found", "turn", "longer", "order", "each"]) (g := s_x_law_orders) hm F sc_x_law_orders fun cdv A outer s H hr => sv_cons (sv_set nd (ev_lst (av_cons (ev_tup (av_nil)) (av_nil)))) (sv_cons (sv_for PassesOwn.never rfl (iv_range1 (by rfl) Md.range_ (av_cons (ev_bi cr_len (by rfl) Md.len_ (by rfl) (av_cons (ev_var 0) (av_nil))) (av_nil))) (gv_name nd) (sv_cons (sv_set nd (ev_lst (av_nil))) (sv_cons (sv_for PassesOwn.never rfl (iv_seq (ev_var 1)) (gv_name nd) (sv_one (sv_set nd (ev_op op_mAdd (ev_var 3) (ev_comp (own := [("each", 5)]) rfl nd (iv_seq (ev_var 0)) (blkOk_by (by kernel_rfl)) (fun _ _ _ _ _ => gv_name nd) (fun _ _ _ _ _ => ifs_one (tv_cmp (op_mNotIn hr.units) (ev_var 5) (ev_var 4) (by rfl))) (fun _ _ _ _ _ => ev_op op_mAdd (ev_var 4) (ev_tup (av_cons (ev_var 5) (av_nil))))))))) (sv_one (sv_set nd (ev_var 3)))))) (sv_one (sv_ret (ev_var 1))))
abbrev d_x_law_shelves : He.DefD := ⟨("_law_shelves", none), "_law_shelves", "_law_shelves", defArgs (top 41), defBody (top 41), defScope (top 41), [], []⟩
abbrev ps_x_law_shelves : List Str := ["shelf"]
theorem pos_x_law_shelves : PosOk d_x_law_shelves ps_x_law_shelves := fun kV doc pm an cdv ct us hl => match us, hl with | [_], _ => rfl
theorem sc_x_law_shelves : FnScope ["shelf"] ps_x_law_shelves (defScope (top 41)) := ⟨by rfl, by rfl, by rfl, by decide +kernel, by rfl, by decide +kernel, by decide +kernel⟩
theorem w_x_law_shelves (Md : Mod K mg) (h_x_law_orders : Has (tabT TL) P w K mg base 1 d_x_law_orders ps_x_law_orders f_x_law_orders) (hm : mg "_law_shelves" = some (.ref f)) (F : FunD K "_law_shelves" "_law_shelves" (defArgs (top 41)) (defBody (top 41)) (defScope (top 41)) [] [] f fd) : Has (tabT TL) P w K mg base 2 d_x_law_shelves ps_x_law_shelves f_x_law_shelves := by
  have nd := sc_x_law_shelves.nd
  exact Has.of (N := ["shelf"]) (g := s_x_law_shelves) hm F sc_x_law_shelves fun cdv A outer s H hr => sv_one (sv_ret (ev_f (h_x_law_orders.mono (by decide)) hr (by rfl) rfl pos_x_law_orders (av_cons (ev_bi (cr_sortedM hr.units) (by rfl) Md.sorted_ (by rfl) (av_cons (ev_var 0) (av_nil))) (av_nil))))
abbrev d_is_word : He.DefD := ⟨("is_word", none), "is_word", "is_word", defArgs (top 10), defBody (top 10), defScope (top 10), [], []⟩
abbrev ps_is_word : List Str := ["value"]
theorem pos_is_word : PosOk d_is_word ps_is_word := fun kV doc pm an cdv ct us hl => match us, hl with | [_], _ => rfl
theorem sc_is_word : FnScope ["value", "sign"] ps_is_word (defScope (top 10)) := ⟨by rfl, by rfl, by rfl, by decide +kernel, by rfl, by decide +kernel, by decide +kernel⟩
theorem w_is_word (Md : Mod K mg) (hm : mg "is_word" = some (.ref f)) (F : FunD K "is_word" "is_word" (defArgs (top 10)) (defBody (top 10)) (defScope (top 10)) [] [] f fd) : Has (tabT TL) P w K mg base 1 d_is_word ps_is_word f_is_word := by
  have nd := sc_is_word.nd
  exact Has.of (N := ["value", "sign"]) (g := s_is_word) hm F sc_is_word fun cdv A outer s H hr => sv_one (sv_ret (ev_and (ev_bi cr_isi (by rfl) Md.isinstance_ (by rfl) (av_cons (ev_var 0) (av_cons (ev_tyn (by rfl) Md.str_ (by rfl)) (av_nil)))) (ev_and (ev_cmp (op_mNe hr.units) (ev_var 0) (ev_str) (by rfl)) (ev_one (ev_bi (cr_allM rfl) (by rfl) Md.all_ (by rfl) (av_cons (ev_comp (own := [("sign", 1)]) rfl nd (iv_seq (ev_var 0)) (blkOk_by (by kernel_rfl)) (fun _ _ _ _ _ => gv_name nd) (fun _ _ _ _ _ => ifs_none) (fun _ _ _ _ _ => ev_cmp (op_mIn hr.units) (ev_var 1) (ev_gstr (by rfl) Md.SMALL_.choose_spec) (by rfl))) (av_nil)))))))
abbrev d_is_name : He.DefD := ⟨("is_name", none), "is_name", "is_name", defArgs (top 11), defBody (top 11), defScope (top 11), [], []⟩
abbrev ps_is_name : List Str := ["value"]
theorem pos_is_name : PosOk d_is_name ps_is_name := fun kV doc pm an cdv ct us hl => match us, hl with | [_], _ => rfl
theorem sc_is_name : FnScope ["value"] ps_is_name (defScope (top 11)) := ⟨by rfl, by rfl, by rfl, by decide +kernel, by rfl, by decide +kernel, by decide +kernel⟩
theorem w_is_name (Md : Mod K mg) (h_is_word : Has (tabT TL) P w K mg base 1 d_is_word ps_is_word f_is_word) (hm : mg "is_name" = some (.ref f)) (F : FunD K "is_name" "is_name" (defArgs (top 11)) (defBody (top 11)) (defScope (top 11)) [] [] f fd) : Has (tabT TL) P w K mg base 2 d_is_name ps_is_name f_is_name := by
  have nd := sc_is_name.nd
  exact Has.of (N := ["value"]) (g := s_is_name) hm F sc_is_name fun cdv A outer s H hr => sv_one (sv_ret (ev_and (ev_f (h_is_word.mono (by decide)) hr (by rfl) rfl pos_is_word (av_cons (ev_var 0) (av_nil))) (ev_and (ev_cmp op_mLe (ev_bi cr_len (by rfl) Md.len_ (by rfl) (av_cons (ev_var 0) (av_nil))) (ev_gint (by rfl) Md.MOST_SIGNS_.choose_spec) (by rfl)) (ev_one (ev_cmp (op_mNotIn hr.units) (ev_var 0) (ev_gtup (by rfl) Md.WORDS_.choose_spec.1 Md.WORDS_.choose_spec.2 (fun _ => reps_map (fun _ => by simp only [Rep]) _)) (by rfl))))))
abbrev d_is_shelf_form : He.DefD := ⟨("is_shelf_form", none), "is_shelf_form", "is_shelf_form", defArgs (top 15), defBody (top 15), defScope (top 15), [], []⟩
abbrev ps_is_shelf_form : List Str := ["value"]
theorem pos_is_shelf_form : PosOk d_is_shelf_form ps_is_shelf_form := fun kV doc pm an cdv ct us hl => match us, hl with | [_], _ => rfl
theorem sc_is_shelf_form : FnScope ["value", "book"] ps_is_shelf_form (defScope (top 15)) := ⟨by rfl, by rfl, by rfl, by decide +kernel, by rfl, by decide +kernel, by decide +kernel⟩
theorem w_is_shelf_form (Md : Mod K mg) (h_is_name : Has (tabT TL) P w K mg base 2 d_is_name ps_is_name f_is_name) (hm : mg "is_shelf_form" = some (.ref f)) (F : FunD K "is_shelf_form" "is_shelf_form" (defArgs (top 15)) (defBody (top 15)) (defScope (top 15)) [] [] f fd) : Has (tabT TL) P w K mg base 3 d_is_shelf_form ps_is_shelf_form f_is_shelf_form := by
  have nd := sc_is_shelf_form.nd
  exact Has.of (N := ["value", "book"]) (g := s_is_shelf_form) hm F sc_is_shelf_form fun cdv A outer s H hr => sv_cons (sv_if (tv_w (wv_or (tv_not (tv_val (ev_bi cr_isi (by rfl) Md.isinstance_ (by rfl) (av_cons (ev_var 0) (av_cons (ev_tyn (by rfl) Md.tuple_ (by rfl)) (av_nil)))))) (wv_or (tv_not (tv_chain op_mLe op_mLe (ev_int) (ev_bi cr_len (by rfl) Md.len_ (by rfl) (av_cons (ev_var 0) (av_nil))) (ev_gint (by rfl) Md.MOST_BOOKS_.choose_spec))) (wv_or1 (tv_not (tv_val (ev_bi (cr_allM rfl) (by rfl) Md.all_ (by rfl) (av_cons (ev_comp (own := [("book", 1)]) rfl nd (iv_seq (ev_var 0)) (blkOk_by (by kernel_rfl)) (fun _ _ _ _ _ => gv_name nd) (fun _ _ _ _ _ => ifs_none) (fun _ _ _ _ _ => ev_f (h_is_name.mono (by decide)) hr (by rfl) rfl pos_is_name (av_cons (ev_var 1) (av_nil)))) (av_nil))))))))) (sv_one (sv_ret (ev_bl))) (sv_nil)) (sv_one (sv_ret (ev_bi (cr_allM rfl) (by rfl) Md.all_ (by rfl) (av_cons (ev_comp (own := [("book", 1)]) rfl nd (iv_seq (ev_var 0)) (blkOk_by (by kernel_rfl)) (fun _ _ _ _ _ => gv_name nd) (fun _ _ _ _ _ => ifs_none) (fun _ _ _ _ _ => ev_cmp (op_mEq hr.units) (ev_meth (mv_count hr.units) (ev_var 0) (av_cons (ev_var 1) (av_nil))) (ev_int) (by rfl))) (av_nil)))))
abbrev d_check_shelf : He.DefD := ⟨("check_shelf", none), "check_shelf", "check_shelf", defArgs (top 20), defBody (top 20), defScope (top 20), [], []⟩
abbrev ps_check_shelf : List Str := ["value"]
theorem pos_check_shelf : PosOk d_check_shelf ps_check_shelf := fun kV doc pm an cdv ct us hl => match us, hl with | [_], _ => rfl
theorem sc_check_shelf : FnScope ["value"] ps_check_shelf (defScope (top 20)) := ⟨by rfl, by rfl, by rfl, by decide +kernel, by rfl, by decide +kernel, by decide +kernel⟩
theorem w_check_shelf (Md : Mod K mg) (h_is_shelf_form : Has (tabT TL) P w K mg base 3 d_is_shelf_form ps_is_shelf_form f_is_shelf_form) (hm : mg "check_shelf" = some (.ref f)) (F : FunD K "check_shelf" "check_shelf" (defArgs (top 20)) (defBody (top 20)) (defScope (top 20)) [] [] f fd) : Has (tabT TL) P w K mg base 4 d_check_shelf ps_check_shelf f_check_shelf := by
  have nd := sc_check_shelf.nd
  exact Has.of (N := ["value"]) (g := s_check_shelf) hm F sc_check_shelf fun cdv A outer s H hr => sv_one (sv_if (tv_not (tv_val (ev_f (h_is_shelf_form.mono (by decide)) hr (by rfl) rfl pos_is_shelf_form (av_cons (ev_var 0) (av_nil))))) (sv_one (sv_bad)) (sv_nil))
abbrev d_wrong_at : He.DefD := ⟨("wrong_at", none), "wrong_at", "wrong_at", defArgs (top 8), defBody (top 8), defScope (top 8), [], []⟩
abbrev ps_wrong_at : List Str := ["value", "is_right"]
theorem pos_wrong_at : PosOk d_wrong_at ps_wrong_at := fun kV doc pm an cdv ct us hl => match us, hl with | [_, _], _ => rfl
theorem sc_wrong_at : FnScope ["value", "is_right", "at", "each"] ps_wrong_at (defScope (top 8)) := ⟨by rfl, by rfl, by rfl, by decide +kernel, by rfl, by decide +kernel, by decide +kernel⟩
theorem w_wrong_at {t : LT} {fr ps2 : List Str} {fb : DEnv → M D} {kl : Nat} (Md : Mod K mg) (G : LamDoes (tabT TL) P w K mg base kl t ps2 fr fb) (hm : mg "wrong_at" = some (.ref f)) (F : FunD K "wrong_at" "wrong_at" (defArgs (top 8)) (defBody (top 8)) (defScope (top 8)) [] [] f fd) : HasL (tabT TL) P w K mg base (kl + 2) d_wrong_at t fr 2 (wrongF (lamF ps2.length fr.length fb)) := by
  have nd := sc_wrong_at.nd
  exact HasL.of (N := ["value", "is_right", "at", "each"]) (ps := ps_wrong_at) (g := sWrongL (lamF ps2.length fr.length fb)) hm F sc_wrong_at pos_wrong_at (fun L cl cdv A outer s H here hst hr => sv_cons (sv_if (tv_not (tv_val (ev_bi cr_isi (by rfl) Md.isinstance_ (by rfl) (av_cons (ev_var 0) (av_cons (ev_tyn (by rfl) Md.tuple_ (by rfl)) (av_nil)))))) (sv_one (sv_ret (ev_lst (av_cons (ev_non) (av_nil))))) (sv_nil)) (sv_cons (sv_for PassesOwn.never rfl (iv_enum (by rfl) Md.enumerate_ (av_cons (ev_var 0) (av_nil))) (gv_tup rfl (gsv_cons (gv_name nd) (gsv_cons (gv_name nd) (gsv_nil (ks := []))))) (sv_one (sv_if (tv_not (tv_val (ev_callL here rfl hst G hr 1 (av_cons (ev_var 3) (av_cons (ev_slice (ev_var 0) (ov_none) (ov_some (ev_var 2))) (av_nil)))))) (sv_one (sv_ret (ev_lst (av_cons (ev_var 2) (av_nil))))) (sv_nil)))) (sv_one (sv_ret (ev_lst (av_nil)))))) (fun L ds as S r S2 hn h => wrong_hg _ L ds as S r S2 hn h)
abbrev d_is_one_of : He.DefD := ⟨("is_one_of", none), "is_one_of", "is_one_of", defArgs (top 9), defBody (top 9), defScope (top 9), [], []⟩
abbrev ps_is_one_of : List Str := ["value", "words"]
theorem pos_is_one_of : PosOk d_is_one_of ps_is_one_of := fun kV doc pm an cdv ct us hl => match us, hl with | [_, _], _ => rfl
theorem sc_is_one_of : FnScope ["value", "words"] ps_is_one_of (defScope (top 9)) := ⟨by rfl, by rfl, by rfl, by decide +kernel, by rfl, by decide +kernel, by decide +kernel⟩
theorem w_is_one_of (Md : Mod K mg) (hm : mg "is_one_of" = some (.ref f)) (F : FunD K "is_one_of" "is_one_of" (defArgs (top 9)) (defBody (top 9)) (defScope (top 9)) [] [] f fd) : Has (tabT TL) P w K mg base 1 d_is_one_of ps_is_one_of f_is_one_of := by
  have nd := sc_is_one_of.nd
  exact Has.of (N := ["value", "words"]) (g := s_is_one_of) hm F sc_is_one_of fun cdv A outer s H hr => sv_one (sv_ret (ev_and (ev_bi cr_isi (by rfl) Md.isinstance_ (by rfl) (av_cons (ev_var 0) (av_cons (ev_tyn (by rfl) Md.str_ (by rfl)) (av_nil)))) (ev_one (ev_cmp (op_mIn hr.units) (ev_var 0) (ev_var 1) (by rfl)))))
abbrev d_wrong_askings : He.DefD := ⟨("wrong_askings", none), "wrong_askings", "wrong_askings", defArgs (top 16), defBody (top 16), defScope (top 16), [], []⟩
abbrev ps_wrong_askings : List Str := ["shelf", "value", "most"]
def t_wrong_askings : LT := lamArg (retE (defBody (top 16)))
theorem nb_wrong_askings : NdefX.ndefB (defScope (top 16)) t_wrong_askings.scope ["most", "shelf"] = true := by decide +kernel
theorem pos_wrong_askings : PosOk d_wrong_askings ps_wrong_askings := fun kV doc pm an cdv ct us hl => match us, hl with | [_, _, _], _ => rfl
theorem l_wrong_askings (Md : Mod K mg) (h_is_one_of : Has (tabT TL) P w K mg base 1 d_is_one_of ps_is_one_of f_is_one_of) : LamDoes (tabT TL) P w K mg base 1 t_wrong_askings ["each", "before"] ["most", "shelf"] b_wrong_askings := ⟨NdefX.nscope_by (by decide +kernel), fun q cl c pm ctv us hl => match us, hl with | [_, _], _ => rfl, fun q cl c f A outer s H hr => ev_and (ev_cmp op_mLt (ev_bi cr_len (by rfl) Md.len_ (by rfl) (av_cons (ev_var 1) (av_nil))) (ev_var 2) (by rfl)) (ev_one (ev_f (h_is_one_of.mono (by decide)) hr (by rfl) rfl pos_is_one_of (av_cons (ev_var 0) (av_cons (ev_var 3) (av_nil)))))⟩
theorem sc_wrong_askings : FnScope ["shelf", "value", "most"] ps_wrong_askings (defScope (top 16)) := ⟨by rfl, by rfl, by rfl, by decide +kernel, by rfl, by decide +kernel, by decide +kernel⟩
theorem w_wrong_askings (Md : Mod K mg) (h_wrong_at : HasL (tabT TL) P w K mg base 3 d_wrong_at t_wrong_askings ["most", "shelf"] 2 (wrongF (lamF 2 2 b_wrong_askings))) (h_is_one_of : Has (tabT TL) P w K mg base 1 d_is_one_of ps_is_one_of f_is_one_of) (hm : mg "wrong_askings" = some (.ref (He.fAd K ("wrong_askings", none)))) (F : FunD K "wrong_askings" "wrong_askings" (defArgs (top 16)) (defBody (top 16)) (defScope (top 16)) [] [] (He.fAd K ("wrong_askings", none)) fd) (TB : LamX.TabB base mg (He.cT K ("wrong_askings", none)).1 (He.cT K ("wrong_askings", none)).2) (hTL : ((He.cT K ("wrong_askings", none)).2, lamQ "wrong_askings") ∈ TL) (hu : ∀ p ∈ TL, p.1 = (He.cT K ("wrong_askings", none)).2 → p.2 = lamQ "wrong_askings") : Has (tabT TL) P w K mg base 4 d_wrong_askings ps_wrong_askings f_wrong_askings := by
  have nd := sc_wrong_askings.nd
  exact Has.ofC (N := ["shelf", "value", "most"]) (g := s_wrong_askings) hm F sc_wrong_askings fun A outer s H hr => sv_one (sv_ret (ev_lamcall (t := t_wrong_askings) (fr := ["most", "shelf"]) (js := [2, 0]) (h_wrong_at.mono (by decide)) hr (by rfl) rfl TB rfl hTL hu (by rfl) (NdefX.ndef_free nb_wrong_askings) (NdefX.ndef_fr nb_wrong_askings) (by rfl) (ev_var 1)))
abbrev d_check_askings_of : He.DefD := ⟨("check_askings_of", none), "check_askings_of", "check_askings_of", defArgs (top 21), defBody (top 21), defScope (top 21), [], []⟩
abbrev ps_check_askings_of : List Str := ["shelf", "value"]
theorem pos_check_askings_of : PosOk d_check_askings_of ps_check_askings_of := fun kV doc pm an cdv ct us hl => match us, hl with | [_, _], _ => rfl
theorem sc_check_askings_of : FnScope ["shelf", "value", "at"] ps_check_askings_of (defScope (top 21)) := ⟨by rfl, by rfl, by rfl, by decide +kernel, by rfl, by decide +kernel, by decide +kernel⟩
theorem w_check_askings_of (Md : Mod K mg) (h_wrong_askings : Has (tabT TL) P w K mg base 4 d_wrong_askings ps_wrong_askings f_wrong_askings) (hm : mg "check_askings_of" = some (.ref f)) (F : FunD K "check_askings_of" "check_askings_of" (defArgs (top 21)) (defBody (top 21)) (defScope (top 21)) [] [] f fd) : Has (tabT TL) P w K mg base 5 d_check_askings_of ps_check_askings_of f_check_askings_of := by
  have nd := sc_check_askings_of.nd
  exact Has.of (N := ["shelf", "value", "at"]) (g := s_check_askings_of) hm F sc_check_askings_of fun cdv A outer s H hr => sv_one (sv_for PassesOwn.never rfl (iv_seq (ev_f (h_wrong_askings.mono (by decide)) hr (by rfl) rfl pos_wrong_askings (av_cons (ev_var 0) (av_cons (ev_var 1) (av_cons (ev_gint (by rfl) Md.MOST_ASKINGS_.choose_spec) (av_nil)))))) (gv_name nd) (sv_one (sv_bad)))
abbrev d_check_asked : He.DefD := ⟨("check_asked", none), "check_asked", "check_asked", defArgs (top 22), defBody (top 22), defScope (top 22), [], []⟩
abbrev ps_check_asked : List Str := ["shelf", "askings"]
theorem pos_check_asked : PosOk d_check_asked ps_check_asked := fun kV doc pm an cdv ct us hl => match us, hl with | [_, _], _ => rfl
theorem sc_check_asked : FnScope ["shelf", "askings"] ps_check_asked (defScope (top 22)) := ⟨by rfl, by rfl, by rfl, by decide +kernel, by rfl, by decide +kernel, by decide +kernel⟩
theorem w_check_asked (Md : Mod K mg) (h_check_shelf : Has (tabT TL) P w K mg base 4 d_check_shelf ps_check_shelf f_check_shelf) (h_check_askings_of : Has (tabT TL) P w K mg base 5 d_check_askings_of ps_check_askings_of f_check_askings_of) (hm : mg "check_asked" = some (.ref f)) (F : FunD K "check_asked" "check_asked" (defArgs (top 22)) (defBody (top 22)) (defScope (top 22)) [] [] f fd) : Has (tabT TL) P w K mg base 6 d_check_asked ps_check_asked f_check_asked := by
  have nd := sc_check_asked.nd
  exact Has.of (N := ["shelf", "askings"]) (g := s_check_asked) hm F sc_check_asked fun cdv A outer s H hr => sv_cons (sv_expr (ev_f (h_check_shelf.mono (by decide)) hr (by rfl) rfl pos_check_shelf (av_cons (ev_var 0) (av_nil)))) (sv_one (sv_expr (ev_f (h_check_askings_of.mono (by decide)) hr (by rfl) rfl pos_check_askings_of (av_cons (ev_var 0) (av_cons (ev_var 1) (av_nil))))))
abbrev d_last_of : He.DefD := ⟨("last_of", none), "last_of", "last_of", defArgs (top 17), defBody (top 17), defScope (top 17), [], []⟩
abbrev ps_last_of : List Str := ["askings"]
theorem pos_last_of : PosOk d_last_of ps_last_of := fun kV doc pm an cdv ct us hl => match us, hl with | [_], _ => rfl
theorem sc_last_of : FnScope ["askings", "found", "book"] ps_last_of (defScope (top 17)) := ⟨by rfl, by rfl, by rfl, by decide +kernel, by rfl, by decide +kernel, by decide +kernel⟩
theorem w_last_of (Md : Mod K mg) (hm : mg "last_of" = some (.ref f)) (F : FunD K "last_of" "last_of" (defArgs (top 17)) (defBody (top 17)) (defScope (top 17)) [] [] f fd) : Has (tabT TL) P w K mg base 1 d_last_of ps_last_of f_last_of := by
  have nd := sc_last_of.nd
  exact Has.of (N := ["askings", "found", "book"]) (g := s_last_of) hm F sc_last_of fun cdv A outer s H hr => sv_cons (sv_set nd (ev_tup (av_nil))) (sv_cons (sv_for PassesOwn.never rfl (iv_seq (ev_rev (ev_var 0))) (gv_name nd) (sv_one (sv_if (tv_cmp (op_mNotIn hr.units) (ev_var 2) (ev_var 1) (by rfl)) (sv_one (sv_set nd (ev_tup (av_star (ev_var 1) (av_cons (ev_var 2) (av_nil)))))) (sv_nil)))) (sv_one (sv_ret (ev_var 1))))
abbrev d_deed_by : He.DefD := ⟨("deed_by", none), "deed_by", "deed_by", defArgs (top 18), defBody (top 18), defScope (top 18), [], []⟩
abbrev ps_deed_by : List Str := ["shelf", "askings"]
theorem pos_deed_by : PosOk d_deed_by ps_deed_by := fun kV doc pm an cdv ct us hl => match us, hl with | [_, _], _ => rfl
theorem sc_deed_by : FnScope ["shelf", "askings"] ps_deed_by (defScope (top 18)) := ⟨by rfl, by rfl, by rfl, by decide +kernel, by rfl, by decide +kernel, by decide +kernel⟩
theorem w_deed_by (Md : Mod K mg) (h_last_of : Has (tabT TL) P w K mg base 1 d_last_of ps_last_of f_last_of) (hm : mg "deed_by" = some (.ref f)) (F : FunD K "deed_by" "deed_by" (defArgs (top 18)) (defBody (top 18)) (defScope (top 18)) [] [] f fd) : Has (tabT TL) P w K mg base 2 d_deed_by ps_deed_by f_deed_by := by
  have nd := sc_deed_by.nd
  exact Has.of (N := ["shelf", "askings"]) (g := s_deed_by) hm F sc_deed_by fun cdv A outer s H hr => sv_one (sv_ret (ev_slice (ev_f (h_last_of.mono (by decide)) hr (by rfl) rfl pos_last_of (av_cons (ev_var 1) (av_nil))) (ov_none) (ov_some (ev_op op_mSub (ev_bi cr_len (by rfl) Md.len_ (by rfl) (av_cons (ev_var 0) (av_nil))) (ev_int)))))
abbrev d_left_out_at : He.DefD := ⟨("left_out_at", none), "left_out_at", "left_out_at", defArgs (top 24), defBody (top 24), defScope (top 24), [], []⟩
abbrev ps_left_out_at : List Str := ["askings", "index"]
theorem pos_left_out_at : PosOk d_left_out_at ps_left_out_at := fun kV doc pm an cdv ct us hl => match us, hl with | [_, _], _ => rfl
theorem sc_left_out_at : FnScope ["askings", "index"] ps_left_out_at (defScope (top 24)) := ⟨by rfl, by rfl, by rfl, by decide +kernel, by rfl, by decide +kernel, by decide +kernel⟩
theorem w_left_out_at (Md : Mod K mg) (hm : mg "left_out_at" = some (.ref f)) (F : FunD K "left_out_at" "left_out_at" (defArgs (top 24)) (defBody (top 24)) (defScope (top 24)) [] [] f fd) : Has (tabT TL) P w K mg base 1 d_left_out_at ps_left_out_at f_left_out_at := by
  have nd := sc_left_out_at.nd
  exact Has.of (N := ["askings", "index"]) (g := s_left_out_at) hm F sc_left_out_at fun cdv A outer s H hr => sv_one (sv_ret (ev_op op_mAdd (ev_slice (ev_var 0) (ov_none) (ov_some (ev_var 1))) (ev_slice (ev_var 0) (ov_some (ev_op op_mAdd (ev_var 1) (ev_int))) (ov_none))))
abbrev d_can_leave : He.DefD := ⟨("can_leave", none), "can_leave", "can_leave", defArgs (top 25), defBody (top 25), defScope (top 25), [], []⟩
abbrev ps_can_leave : List Str := ["shelf", "askings", "index"]
theorem pos_can_leave : PosOk d_can_leave ps_can_leave := fun kV doc pm an cdv ct us hl => match us, hl with | [_, _, _], _ => rfl
theorem sc_can_leave : FnScope ["shelf", "askings", "index"] ps_can_leave (defScope (top 25)) := ⟨by rfl, by rfl, by rfl, by decide +kernel, by rfl, by decide +kernel, by decide +kernel⟩
theorem w_can_leave (Md : Mod K mg) (h_deed_by : Has (tabT TL) P w K mg base 2 d_deed_by ps_deed_by f_deed_by) (h_left_out_at : Has (tabT TL) P w K mg base 1 d_left_out_at ps_left_out_at f_left_out_at) (hm : mg "can_leave" = some (.ref f)) (F : FunD K "can_leave" "can_leave" (defArgs (top 25)) (defBody (top 25)) (defScope (top 25)) [] [] f fd) : Has (tabT TL) P w K mg base 3 d_can_leave ps_can_leave f_can_leave := by
  have nd := sc_can_leave.nd
  exact Has.of (N := ["shelf", "askings", "index"]) (g := s_can_leave) hm F sc_can_leave fun cdv A outer s H hr => sv_one (sv_ret (ev_cmp (op_mEq hr.units) (ev_f (h_deed_by.mono (by decide)) hr (by rfl) rfl pos_deed_by (av_cons (ev_var 0) (av_cons (ev_f (h_left_out_at.mono (by decide)) hr (by rfl) rfl pos_left_out_at (av_cons (ev_var 1) (av_cons (ev_var 2) (av_nil)))) (av_nil)))) (ev_f (h_deed_by.mono (by decide)) hr (by rfl) rfl pos_deed_by (av_cons (ev_var 0) (av_cons (ev_var 1) (av_nil)))) (by rfl)))
abbrev d_needless_at : He.DefD := ⟨("needless_at", none), "needless_at", "needless_at", defArgs (top 27), defBody (top 27), defScope (top 27), [], []⟩
abbrev ps_needless_at : List Str := ["shelf", "askings"]
theorem pos_needless_at : PosOk d_needless_at ps_needless_at := fun kV doc pm an cdv ct us hl => match us, hl with | [_, _], _ => rfl
abbrev ksP_needless_at_1_0 : List Str := ["askings", "shelf"]
theorem kwP_needless_at_1_0 : KwOk d_needless_at ps_needless_at 0 ksP_needless_at_1_0 (fun us ws => gP [1, 0] us ws) := fun kV doc pm an cdv ct us ws hl hl2 => match us, ws, hl, hl2 with | [], [_, _], _, _ => rfl
theorem sc_needless_at : FnScope ["shelf", "askings", "index"] ps_needless_at (defScope (top 27)) := ⟨by rfl, by rfl, by rfl, by decide +kernel, by rfl, by decide +kernel, by decide +kernel⟩
theorem w_needless_at (Md : Mod K mg) (h_check_asked : Has (tabT TL) P w K mg base 6 d_check_asked ps_check_asked f_check_asked) (h_can_leave : Has (tabT TL) P w K mg base 3 d_can_leave ps_can_leave f_can_leave) (hm : mg "needless_at" = some (.ref f)) (F : FunD K "needless_at" "needless_at" (defArgs (top 27)) (defBody (top 27)) (defScope (top 27)) [] [] f fd) : Has (tabT TL) P w K mg base 7 d_needless_at ps_needless_at f_needless_at := by
  have nd := sc_needless_at.nd
  exact Has.of (N := ["shelf", "askings", "index"]) (g := s_needless_at) hm F sc_needless_at fun cdv A outer s H hr => sv_cons (sv_expr (ev_f (h_check_asked.mono (by decide)) hr (by rfl) rfl pos_check_asked (av_cons (ev_var 0) (av_cons (ev_var 1) (av_nil))))) (sv_one (sv_ret (ev_ty cr_tupleM (by rfl) Md.tuple_ (by rfl) (av_cons (ev_comp (own := [("index", 2)]) rfl nd (iv_range1 (by rfl) Md.range_ (av_cons (ev_bi cr_len (by rfl) Md.len_ (by rfl) (av_cons (ev_var 1) (av_nil))) (av_nil))) (blkOk_by (by kernel_rfl)) (fun _ _ _ _ _ => gv_name nd) (fun _ _ _ _ _ => ifs_one (tv_val (ev_f (h_can_leave.mono (by decide)) hr (by rfl) rfl pos_can_leave (av_cons (ev_var 0) (av_cons (ev_var 1) (av_cons (ev_var 2) (av_nil))))))) (fun _ _ _ _ _ => ev_var 2)) (av_nil)))))
abbrev d_again_in : He.DefD := ⟨("again_in", none), "again_in", "again_in", defArgs (top 26), defBody (top 26), defScope (top 26), [], []⟩
abbrev ps_again_in : List Str := ["askings"]
theorem pos_again_in : PosOk d_again_in ps_again_in := fun kV doc pm an cdv ct us hl => match us, hl with | [_], _ => rfl
theorem sc_again_in : FnScope ["askings", "index", "book"] ps_again_in (defScope (top 26)) := ⟨by rfl, by rfl, by rfl, by decide +kernel, by rfl, by decide +kernel, by decide +kernel⟩
theorem w_again_in (Md : Mod K mg) (hm : mg "again_in" = some (.ref f)) (F : FunD K "again_in" "again_in" (defArgs (top 26)) (defBody (top 26)) (defScope (top 26)) [] [] f fd) : Has (tabT TL) P w K mg base 1 d_again_in ps_again_in f_again_in := by
  have nd := sc_again_in.nd
  exact Has.of (N := ["askings", "index", "book"]) (g := s_again_in) hm F sc_again_in fun cdv A outer s H hr => sv_one (sv_ret (ev_comp (own := [("index", 1), ("book", 2)]) rfl nd (iv_enum (by rfl) Md.enumerate_ (av_cons (ev_var 0) (av_nil))) (blkOk_by (by kernel_rfl)) (fun _ _ _ _ _ => gv_tup rfl (gsv_cons (gv_name nd) (gsv_cons (gv_name nd) (gsv_nil (ks := []))))) (fun _ _ _ _ _ => ifs_one (tv_cmp (op_mIn hr.units) (ev_var 2) (ev_slice (ev_var 0) (ov_some (ev_op op_mAdd (ev_var 1) (ev_int))) (ov_none)) (by rfl))) (fun _ _ _ _ _ => ev_var 1)))
abbrev d_asked_again : He.DefD := ⟨("asked_again", none), "asked_again", "asked_again", defArgs (top 28), defBody (top 28), defScope (top 28), [], []⟩
abbrev ps_asked_again : List Str := ["shelf", "askings"]
theorem pos_asked_again : PosOk d_asked_again ps_asked_again := fun kV doc pm an cdv ct us hl => match us, hl with | [_, _], _ => rfl
abbrev ksP_asked_again_1_0 : List Str := ["askings", "shelf"]
theorem kwP_asked_again_1_0 : KwOk d_asked_again ps_asked_again 0 ksP_asked_again_1_0 (fun us ws => gP [1, 0] us ws) := fun kV doc pm an cdv ct us ws hl hl2 => match us, ws, hl, hl2 with | [], [_, _], _, _ => rfl
theorem sc_asked_again : FnScope ["shelf", "askings"] ps_asked_again (defScope (top 28)) := ⟨by rfl, by rfl, by rfl, by decide +kernel, by rfl, by decide +kernel, by decide +kernel⟩
theorem w_asked_again (Md : Mod K mg) (h_check_asked : Has (tabT TL) P w K mg base 6 d_check_asked ps_check_asked f_check_asked) (h_again_in : Has (tabT TL) P w K mg base 1 d_again_in ps_again_in f_again_in) (hm : mg "asked_again" = some (.ref f)) (F : FunD K "asked_again" "asked_again" (defArgs (top 28)) (defBody (top 28)) (defScope (top 28)) [] [] f fd) : Has (tabT TL) P w K mg base 7 d_asked_again ps_asked_again f_asked_again := by
  have nd := sc_asked_again.nd
  exact Has.of (N := ["shelf", "askings"]) (g := s_asked_again) hm F sc_asked_again fun cdv A outer s H hr => sv_cons (sv_expr (ev_f (h_check_asked.mono (by decide)) hr (by rfl) rfl pos_check_asked (av_cons (ev_var 0) (av_cons (ev_var 1) (av_nil))))) (sv_one (sv_ret (ev_ty cr_tupleM (by rfl) Md.tuple_ (by rfl) (av_cons (ev_f (h_again_in.mono (by decide)) hr (by rfl) rfl pos_again_in (av_cons (ev_var 1) (av_nil))) (av_nil)))))
abbrev d_thinned : He.DefD := ⟨("thinned", none), "thinned", "thinned", defArgs (top 29), defBody (top 29), defScope (top 29), [], []⟩
abbrev ps_thinned : List Str := ["shelf", "askings"]
theorem pos_thinned : PosOk d_thinned ps_thinned := fun kV doc pm an cdv ct us hl => match us, hl with | [_, _], _ => rfl
abbrev ksP_thinned_1_0 : List Str := ["askings", "shelf"]
theorem kwP_thinned_1_0 : KwOk d_thinned ps_thinned 0 ksP_thinned_1_0 (fun us ws => gP [1, 0] us ws) := fun kV doc pm an cdv ct us ws hl hl2 => match us, ws, hl, hl2 with | [], [_, _], _, _ => rfl
theorem sc_thinned : FnScope ["shelf", "askings", "again", "index", "book"] ps_thinned (defScope (top 29)) := ⟨by rfl, by rfl, by rfl, by decide +kernel, by rfl, by decide +kernel, by decide +kernel⟩
theorem w_thinned (Md : Mod K mg) (h_check_asked : Has (tabT TL) P w K mg base 6 d_check_asked ps_check_asked f_check_asked) (h_again_in : Has (tabT TL) P w K mg base 1 d_again_in ps_again_in f_again_in) (hm : mg "thinned" = some (.ref f)) (F : FunD K "thinned" "thinned" (defArgs (top 29)) (defBody (top 29)) (defScope (top 29)) [] [] f fd) : Has (tabT TL) P w K mg base 7 d_thinned ps_thinned f_thinned := by
  have nd := sc_thinned.nd
  exact Has.of (N := ["shelf", "askings", "again", "index", "book"]) (g := s_thinned) hm F sc_thinned fun cdv A outer s H hr => sv_cons (sv_expr (ev_f (h_check_asked.mono (by decide)) hr (by rfl) rfl pos_check_asked (av_cons (ev_var 0) (av_cons (ev_var 1) (av_nil))))) (sv_cons (sv_set nd (ev_f (h_again_in.mono (by decide)) hr (by rfl) rfl pos_again_in (av_cons (ev_var 1) (av_nil)))) (sv_one (sv_ret (ev_ty cr_tupleM (by rfl) Md.tuple_ (by rfl) (av_cons (ev_comp (own := [("index", 3), ("book", 4)]) rfl nd (iv_enum (by rfl) Md.enumerate_ (av_cons (ev_var 1) (av_nil))) (blkOk_by (by kernel_rfl)) (fun _ _ _ _ _ => gv_tup rfl (gsv_cons (gv_name nd) (gsv_cons (gv_name nd) (gsv_nil (ks := []))))) (fun _ _ _ _ _ => ifs_one (tv_cmp (op_mNotIn hr.units) (ev_var 3) (ev_var 2) (by rfl))) (fun _ _ _ _ _ => ev_var 4)) (av_nil))))))
abbrev d_x_law_right : He.DefD := ⟨("_law_right", none), "_law_right", "_law_right", defArgs (top 43), defBody (top 43), defScope (top 43), [], []⟩
abbrev ps_x_law_right : List Str := ["well"]
def s_x_law_right : SM := sSeq (sFor (iRange1 (aCons (eC (.int 15)) (aNil))) (gN 1) (sSeq (sAsg (eCall (mArgs 2 f_x_law_shelf) (aCons (eVar 0) (aCons (eC (.int 4)) (aNil)))) (gN 2)) (sSeq (sAsg (eCall mTup (aCons (eCall (mArgs 3 f_x_law_asks) (aCons (eVar 0) (aCons (eVar 2) (aCons (eC (.int 9)) (aNil))))) (aCons (eCall (mArgs 1 f_x_law_shelves) (aCons (eVar 2) (aNil))) (aNil)))) (gT 2 (gsCons (gN 8) (gsCons (gN 9) (gsNil))))) (sSeq (sAsg (eCall (mArgs 2 f_x_law_ends) (aCons (eVar 9) (aCons (eVar 8) (aNil)))) (gN 3)) (sSeq (sAsg (eCall mCel (aNil)) (gN 4)) (sSeq (sFor (iRange1 (aCons (eCall mLen (aCons (eVar 8) (aNil))) (aNil))) (gN 5) (sIf (tst (e2 mEq (eCall (mArgs 2 f_x_law_ends) (aCons (eVar 9) (aCons (e2 mAdd (eSl (eVar 8) (oNone) (oSome (eVar 5))) (eSl (eVar 8) (oSome (e2 mAdd (eVar 5) (eC (.int 1)))) (oNone))) (aNil)))) (eVar 3))) (sDrop (eMethL gLst mAppend (eVar 4) (aCons (eVar 5) (aNil)))) (sNil))) (sSeq (sFz 4) (sSeq (sIf (tst (e2 mNe (eCall mRepr (aCons (eCall mLst (aCons (eCall (mArgs 2 f_needless_at) (aCons (eVar 2) (aCons (eVar 8) (aNil)))) (aCons (eCallP [1, 0] (mArgs 2 f_needless_at) (aCons (eVar 8) (aCons (eVar 2) (aNil)))) (aNil)))) (aNil))) (eCall mRepr (aCons (e2 mRepL (eCall mLst (aCons (eCall mTuple (aCons (eVar 4) (aNil))) (aNil))) (eC (.int 2))) (aNil))))) (sRet (eC (.bl false))) (sNil)) (sSeq (sAsg (eCall mTuple (aCons (eComp [5, 10] (iEnumD (aCons (eVar 8) (aNil))) (gT 2 (gsCons (gN 5) (gsCons (gN 10) (gsNil)))) (tst (e2 (mIn false) (eVar 10) (eSl (eVar 8) (oSome (e2 mAdd (eVar 5) (eC (.int 1)))) (oNone)))) (eVar 5)) (aNil))) (gN 6)) (sSeq (sIf (tst (e2 mNe (eCall mRepr (aCons (eCall mLst (aCons (eCall (mArgs 2 f_asked_again) (aCons (eVar 2) (aCons (eVar 8) (aNil)))) (aCons (eCallP [1, 0] (mArgs 2 f_asked_again) (aCons (eVar 8) (aCons (eVar 2) (aNil)))) (aNil)))) (aNil))) (eCall mRepr (aCons (eCall mLst (aCons (eVar 6) (aCons (eVar 6) (aNil)))) (aNil))))) (sRet (eC (.bl false))) (sNil)) (sSeq (sAsg (eCall mTuple (aCons (eComp [5, 10] (iEnumD (aCons (eVar 8) (aNil))) (gT 2 (gsCons (gN 5) (gsCons (gN 10) (gsNil)))) (tst (e2 (mIn true) (eVar 5) (eVar 6))) (eVar 10)) (aNil))) (gN 7)) (sSeq (sIf (tst (e2 mNe (eCall mRepr (aCons (eCall mLst (aCons (eCall (mArgs 2 f_thinned) (aCons (eVar 2) (aCons (eVar 8) (aNil)))) (aCons (eCallP [1, 0] (mArgs 2 f_thinned) (aCons (eVar 8) (aCons (eVar 2) (aNil)))) (aNil)))) (aNil))) (eCall mRepr (aCons (eCall mLst (aCons (eVar 7) (aCons (eVar 7) (aNil)))) (aNil))))) (sRet (eC (.bl false))) (sNil)) (sIf (tOrM (tst (e2 mNe (eCall (mArgs 2 f_x_law_ends) (aCons (eVar 9) (aCons (eVar 7) (aNil)))) (eVar 3))) (tst (e2 mNe (eComp [5] (iSeq (eVar 6)) (gN 5) (tst (e2 (mIn true) (eVar 5) (eVar 4))) (eVar 5)) (eCall mLst (aNil))))) (sRet (eC (.bl false))) (sNil)))))))))))))) (sRet (eC (.bl true)))
def f_x_law_right : List D → M D := fnD 11 s_x_law_right
theorem pos_x_law_right : PosOk d_x_law_right ps_x_law_right := fun kV doc pm an cdv ct us hl => match us, hl with | [_], _ => rfl
theorem sc_x_law_right : FnScope ["well", "turn", "shelf", "whole", "due", "k", "again", "rest", "askings", "every", "book"] ps_x_law_right (defScope (top 43)) := ⟨by rfl, by rfl, by rfl, by decide +kernel, by rfl, by decide +kernel, by decide +kernel⟩
theorem w_x_law_right (Md : Mod K mg) (h_x_law_shelf : Has (tabT TL) P w K mg base 4 d_x_law_shelf ps_x_law_shelf f_x_law_shelf) (h_x_law_ends : Has (tabT TL) P w K mg base 3 d_x_law_ends ps_x_law_ends f_x_law_ends) (h_x_law_asks : Has (tabT TL) P w K mg base 3 d_x_law_asks ps_x_law_asks f_x_law_asks) (h_x_law_shelves : Has (tabT TL) P w K mg base 2 d_x_law_shelves ps_x_law_shelves f_x_law_shelves) (h_needless_at : Has (tabT TL) P w K mg base 7 d_needless_at ps_needless_at f_needless_at) (h_asked_again : Has (tabT TL) P w K mg base 7 d_asked_again ps_asked_again f_asked_again) (h_thinned : Has (tabT TL) P w K mg base 7 d_thinned ps_thinned f_thinned) (hm : mg "_law_right" = some (.ref f)) (F : FunD K "_law_right" "_law_right" (defArgs (top 43)) (defBody (top 43)) (defScope (top 43)) [] [] f fd) : Has (tabT TL) P w K mg base 8 d_x_law_right ps_x_law_right f_x_law_right := by
  have nd := sc_x_law_right.nd
  exact Has.of (N := ["well", "turn", "shelf", "whole", "due", "k", "again", "rest", "askings", "every", "book"]) (g := s_x_law_right) hm F sc_x_law_right fun cdv A outer s H hr => sv_cons (sv_for PassesOwn.never rfl (iv_range1 (by rfl) Md.range_ (av_cons (ev_int) (av_nil))) (gv_name nd) (sv_cons (sv_set nd (ev_f (h_x_law_shelf.mono (by decide)) hr (by rfl) rfl pos_x_law_shelf (av_cons (ev_var 0) (av_cons (ev_int) (av_nil))))) (sv_cons (sv_asg (ev_tup (av_cons (ev_f (h_x_law_asks.mono (by decide)) hr (by rfl) rfl pos_x_law_asks (av_cons (ev_var 0) (av_cons (ev_var 2) (av_cons (ev_int) (av_nil))))) (av_cons (ev_f (h_x_law_shelves.mono (by decide)) hr (by rfl) rfl pos_x_law_shelves (av_cons (ev_var 2) (av_nil))) (av_nil)))) (gv_tup rfl (gsv_cons (gv_name nd) (gsv_cons (gv_name nd) (gsv_nil (ks := [])))))) (sv_cons (sv_set nd (ev_f (h_x_law_ends.mono (by decide)) hr (by rfl) rfl pos_x_law_ends (av_cons (ev_var 9) (av_cons (ev_var 8) (av_nil))))) (sv_cons (sv_set nd (ev_lstC (av_nil))) (sv_cons (sv_for PassesOwn.never rfl (iv_range1 (by rfl) Md.range_ (av_cons (ev_bi cr_len (by rfl) Md.len_ (by rfl) (av_cons (ev_var 8) (av_nil))) (av_nil))) (gv_name nd) (sv_one (sv_if (tv_cmp (op_mEq hr.units) (ev_f (h_x_law_ends.mono (by decide)) hr (by rfl) rfl pos_x_law_ends (av_cons (ev_var 9) (av_cons (ev_op op_mAdd (ev_slice (ev_var 8) (ov_none) (ov_some (ev_var 5))) (ev_slice (ev_var 8) (ov_some (ev_op op_mAdd (ev_var 5) (ev_int))) (ov_none))) (av_nil)))) (ev_var 3) (by rfl)) (sv_one (sv_expr (ev_meth mv_append (ev_var 4) (av_cons (ev_var 5) (av_nil))))) (sv_nil)))) (ssv_fz 4 (sv_cons (sv_if (tv_cmp (op_mNe hr.units) (ev_bi (cr_reprM hr) (by rfl) Md.repr_ (by rfl) (av_cons (ev_lst (av_cons (ev_f (h_needless_at.mono (by decide)) hr (by rfl) rfl pos_needless_at (av_cons (ev_var 2) (av_cons (ev_var 8) (av_nil)))) (av_cons (ev_fkP (ks := ksP_needless_at_1_0) (pm := [1, 0]) (h_needless_at.mono (by decide)) hr (by rfl) rfl (by decide) rfl kwP_needless_at_1_0 (kv_cons (ev_var 8) (kv_cons (ev_var 2) (kv_nil)))) (av_nil)))) (av_nil))) (ev_bi (cr_reprM hr) (by rfl) Md.repr_ (by rfl) (av_cons (ev_op op_mRepL (ev_lst (av_cons (ev_ty cr_tupleM (by rfl) Md.tuple_ (by rfl) (av_cons (ev_var 4) (av_nil))) (av_nil))) (ev_int)) (av_nil))) (by rfl)) (sv_one (sv_ret (ev_bl))) (sv_nil)) (sv_cons (sv_set nd (ev_ty cr_tupleM (by rfl) Md.tuple_ (by rfl) (av_cons (ev_comp (own := [("k", 5), ("book", 10)]) rfl nd (iv_enum (by rfl) Md.enumerate_ (av_cons (ev_var 8) (av_nil))) (blkOk_by (by kernel_rfl)) (fun _ _ _ _ _ => gv_tup rfl (gsv_cons (gv_name nd) (gsv_cons (gv_name nd) (gsv_nil (ks := []))))) (fun _ _ _ _ _ => ifs_one (tv_cmp (op_mIn hr.units) (ev_var 10) (ev_slice (ev_var 8) (ov_some (ev_op op_mAdd (ev_var 5) (ev_int))) (ov_none)) (by rfl))) (fun _ _ _ _ _ => ev_var 5)) (av_nil)))) (sv_cons (sv_if (tv_cmp (op_mNe hr.units) (ev_bi (cr_reprM hr) (by rfl) Md.repr_ (by rfl) (av_cons (ev_lst (av_cons (ev_f (h_asked_again.mono (by decide)) hr (by rfl) rfl pos_asked_again (av_cons (ev_var 2) (av_cons (ev_var 8) (av_nil)))) (av_cons (ev_fkP (ks := ksP_asked_again_1_0) (pm := [1, 0]) (h_asked_again.mono (by decide)) hr (by rfl) rfl (by decide) rfl kwP_asked_again_1_0 (kv_cons (ev_var 8) (kv_cons (ev_var 2) (kv_nil)))) (av_nil)))) (av_nil))) (ev_bi (cr_reprM hr) (by rfl) Md.repr_ (by rfl) (av_cons (ev_lst (av_cons (ev_var 6) (av_cons (ev_var 6) (av_nil)))) (av_nil))) (by rfl)) (sv_one (sv_ret (ev_bl))) (sv_nil)) (sv_cons (sv_set nd (ev_ty cr_tupleM (by rfl) Md.tuple_ (by rfl) (av_cons (ev_comp (own := [("k", 5), ("book", 10)]) rfl nd (iv_enum (by rfl) Md.enumerate_ (av_cons (ev_var 8) (av_nil))) (blkOk_by (by kernel_rfl)) (fun _ _ _ _ _ => gv_tup rfl (gsv_cons (gv_name nd) (gsv_cons (gv_name nd) (gsv_nil (ks := []))))) (fun _ _ _ _ _ => ifs_one (tv_cmp (op_mNotIn hr.units) (ev_var 5) (ev_var 6) (by rfl))) (fun _ _ _ _ _ => ev_var 10)) (av_nil)))) (sv_cons (sv_if (tv_cmp (op_mNe hr.units) (ev_bi (cr_reprM hr) (by rfl) Md.repr_ (by rfl) (av_cons (ev_lst (av_cons (ev_f (h_thinned.mono (by decide)) hr (by rfl) rfl pos_thinned (av_cons (ev_var 2) (av_cons (ev_var 8) (av_nil)))) (av_cons (ev_fkP (ks := ksP_thinned_1_0) (pm := [1, 0]) (h_thinned.mono (by decide)) hr (by rfl) rfl (by decide) rfl kwP_thinned_1_0 (kv_cons (ev_var 8) (kv_cons (ev_var 2) (kv_nil)))) (av_nil)))) (av_nil))) (ev_bi (cr_reprM hr) (by rfl) Md.repr_ (by rfl) (av_cons (ev_lst (av_cons (ev_var 7) (av_cons (ev_var 7) (av_nil)))) (av_nil))) (by rfl)) (sv_one (sv_ret (ev_bl))) (sv_nil)) (sv_one (sv_if (tv_w (wv_or (tv_cmp (op_mNe hr.units) (ev_f (h_x_law_ends.mono (by decide)) hr (by rfl) rfl pos_x_law_ends (av_cons (ev_var 9) (av_cons (ev_var 7) (av_nil)))) (ev_var 3) (by rfl)) (wv_or1 (tv_cmp (op_mNe hr.units) (ev_comp (own := [("k", 5)]) rfl nd (iv_seq (ev_var 6)) (blkOk_by (by kernel_rfl)) (fun _ _ _ _ _ => gv_name nd) (fun _ _ _ _ _ => ifs_one (tv_cmp (op_mNotIn hr.units) (ev_var 5) (ev_var 4) (by rfl))) (fun _ _ _ _ _ => ev_var 5)) (ev_lst (av_nil)) (by rfl))))) (sv_one (sv_ret (ev_bl))) (sv_nil))))))))))))))) (sv_one (sv_ret (ev_bl)))
abbrev d_x_law_well : He.DefD := ⟨("_law_well", none), "_law_well", "_law_well", defArgs (top 31), defBody (top 31), defScope (top 31), [], []⟩
abbrev ps_x_law_well : List Str := ["script", "k"]
def s_x_law_well : SM := sSeq (sAsg (eIf (tst (e2 mLt (eVar 1) (eCall mLen (aCons (eVar 0) (aNil))))) (eCall mInt (aCons (e2 mIx (eVar 0) (eVar 1)) (aNil))) (e2 mAdd (e2 mMul (eC (.int 9403)) (eVar 1)) (eC (.int 2503)))) (gN 2)) (sSeq (sAsg (e2 mAdd (eC (.int 18013)) (e2 mMul (eC (.int 1709)) (eVar 1))) (gN 3)) (sSeq (sFor (iSeq (e2 mAdd (eSl (eVar 0) (oNone) (oSome (eC (.int 7)))) (eCall mLst (aCons (eVar 2) (aNil))))) (gN 4) (sAsg (e2 mMod (eCall mInt (aCons (e2 mAdd (e2 mAdd (e2 mMul (eVar 3) (eC (.int 28001))) (e2 mMod (eCall mInt (aCons (eVar 4) (aNil))) (eC (.int 2147480009)))) (eC (.int 137))) (aNil))) (eC (.int 2147480009))) (gN 3))) (sRet (eCall mCel (aCons (eIf (tOrM (tst (e2 mLt (eVar 2) (eC (.int 0)))) (tst (e2 mGe (eVar 2) (e2 mPow (eC (.int 10)) (eC (.int 15)))))) (eCall mAbs (aCons (eVar 2) (aNil))) (eC (.int 0))) (aCons (eVar 3) (aCons (eC (.int 0)) (aNil))))))))
def f_x_law_well : List D → M D := fnD 5 s_x_law_well
theorem pos_x_law_well : PosOk d_x_law_well ps_x_law_well := fun kV doc pm an cdv ct us hl => match us, hl with | [_, _], _ => rfl
theorem sc_x_law_well : FnScope ["script", "k", "spot", "blend", "each"] ps_x_law_well (defScope (top 31)) := ⟨by rfl, by rfl, by rfl, by decide +kernel, by rfl, by decide +kernel, by decide +kernel⟩
theorem w_x_law_well (Md : Mod K mg) (hm : mg "_law_well" = some (.ref f)) (F : FunD K "_law_well" "_law_well" (defArgs (top 31)) (defBody (top 31)) (defScope (top 31)) [] [] f fd) : Has (tabT TL) P w K mg base 1 d_x_law_well ps_x_law_well f_x_law_well := by
  have nd := sc_x_law_well.nd
  exact Has.of (N := ["script", "k", "spot", "blend", "each"]) (g := s_x_law_well) hm F sc_x_law_well fun cdv A outer s H hr => sv_cons (sv_set nd (ev_if (tv_cmp op_mLt (ev_var 1) (ev_bi cr_len (by rfl) Md.len_ (by rfl) (av_cons (ev_var 0) (av_nil))) (by rfl)) (ev_ty cr_intM (by rfl) Md.int_ (by rfl) (av_cons (ev_sub (ev_var 0) (ev_var 1)) (av_nil))) (ev_op op_mAdd (ev_op op_mMul (ev_int) (ev_var 1)) (ev_int)))) (sv_cons (sv_set nd (ev_op op_mAdd (ev_int) (ev_op op_mMul (ev_int) (ev_var 1)))) (sv_cons (sv_for PassesOwn.never rfl (iv_seq (ev_op op_mAdd (ev_slice (ev_var 0) (ov_none) (ov_some (ev_int))) (ev_lst (av_cons (ev_var 2) (av_nil))))) (gv_name nd) (sv_one (sv_set nd (ev_op op_mMod (ev_ty cr_intM (by rfl) Md.int_ (by rfl) (av_cons (ev_op op_mAdd (ev_op op_mAdd (ev_op op_mMul (ev_var 3) (ev_int)) (ev_op op_mMod (ev_ty cr_intM (by rfl) Md.int_ (by rfl) (av_cons (ev_var 4) (av_nil))) (ev_int))) (ev_int)) (av_nil))) (ev_int))))) (sv_one (sv_ret (ev_lstC (av_cons (ev_if (tv_w (wv_or (tv_cmp op_mLt (ev_var 2) (ev_int) (by rfl)) (wv_or1 (tv_cmp op_mGe (ev_var 2) (ev_op op_mPow (ev_int) (ev_int)) (by rfl))))) (ev_bi cr_absM (by rfl) Md.abs_ (by rfl) (av_cons (ev_var 2) (av_nil))) (ev_int)) (av_cons (ev_var 3) (av_cons (ev_int) (av_nil)))))))))
abbrev d_x_law_turns : He.DefD := ⟨("_law_turns", none), "_law_turns", "_law_turns", defArgs (top 34), defBody (top 34), defScope (top 34), [], []⟩
abbrev ps_x_law_turns : List Str := ["script"]
theorem pos_x_law_turns : PosOk d_x_law_turns ps_x_law_turns := fun kV doc pm an cdv ct us hl => match us, hl with | [_], _ => rfl
theorem sc_x_law_turns : FnScope ["script"] ps_x_law_turns (defScope (top 34)) := ⟨by rfl, by rfl, by rfl, by decide +kernel, by rfl, by decide +kernel, by decide +kernel⟩
theorem w_x_law_turns (Md : Mod K mg) (hm : mg "_law_turns" = some (.ref f)) (F : FunD K "_law_turns" "_law_turns" (defArgs (top 34)) (defBody (top 34)) (defScope (top 34)) [] [] f fd) : Has (tabT TL) P w K mg base 1 d_x_law_turns ps_x_law_turns f_x_law_turns := by
  have nd := sc_x_law_turns.nd
  exact Has.of (N := ["script"]) (g := s_x_law_turns) hm F sc_x_law_turns fun cdv A outer s H hr => sv_one (sv_ret (ev_listRg rfl (by rfl) Md.list_ (by rfl) Md.range_ (ev_bi (cr_maxM hr.units rfl) (by rfl) Md.max_ (by rfl) (av_cons (ev_int) (av_cons (ev_bi (cr_minM hr.units rfl) (by rfl) Md.min_ (by rfl) (av_cons (ev_bi cr_len (by rfl) Md.len_ (by rfl) (av_cons (ev_var 0) (av_nil))) (av_cons (ev_int) (av_nil)))) (av_nil))))))
abbrev d_law : He.DefD := ⟨("law", none), "law", "law", defArgs (top 44), defBody (top 44), defScope (top 44), [], []⟩
abbrev ps_law : List Str := ["script"]
def s_law : SM := sRet (eCall mAll (aCons (eComp [1] (iSeq (eCall (mArgs 1 f_x_law_turns) (aCons (eVar 0) (aNil)))) (gN 1) (tYesM) (eCall (mArgs 1 f_x_law_right) (aCons (eCall (mArgs 2 f_x_law_well) (aCons (eVar 0) (aCons (eVar 1) (aNil)))) (aNil)))) (aNil)))
def f_law : List D → M D := fnD 2 s_law
theorem pos_law : PosOk d_law ps_law := fun kV doc pm an cdv ct us hl => match us, hl with | [_], _ => rfl
theorem sc_law : FnScope ["script", "k"] ps_law (defScope (top 44)) := ⟨by rfl, by rfl, by rfl, by decide +kernel, by rfl, by decide +kernel, by decide +kernel⟩
theorem w_law (Md : Mod K mg) (h_x_law_right : Has (tabT TL) P w K mg base 8 d_x_law_right ps_x_law_right f_x_law_right) (h_x_law_well : Has (tabT TL) P w K mg base 1 d_x_law_well ps_x_law_well f_x_law_well) (h_x_law_turns : Has (tabT TL) P w K mg base 1 d_x_law_turns ps_x_law_turns f_x_law_turns) (hm : mg "law" = some (.ref f)) (F : FunD K "law" "law" (defArgs (top 44)) (defBody (top 44)) (defScope (top 44)) [] [] f fd) : Has (tabT TL) P w K mg base 9 d_law ps_law f_law := by
  have nd := sc_law.nd
  exact Has.of (N := ["script", "k"]) (g := s_law) hm F sc_law fun cdv A outer s H hr => sv_one (sv_ret (ev_bi (cr_allM rfl) (by rfl) Md.all_ (by rfl) (av_cons (ev_comp (own := [("k", 1)]) rfl nd (iv_seq (ev_f (h_x_law_turns.mono (by decide)) hr (by rfl) rfl pos_x_law_turns (av_cons (ev_var 0) (av_nil)))) (blkOk_by (by kernel_rfl)) (fun _ _ _ _ _ => gv_name nd) (fun _ _ _ _ _ => ifs_none) (fun _ _ _ _ _ => ev_f (h_x_law_right.mono (by decide)) hr (by rfl) rfl pos_x_law_right (av_cons (ev_f (h_x_law_well.mono (by decide)) hr (by rfl) rfl pos_x_law_well (av_cons (ev_var 0) (av_cons (ev_var 1) (av_nil)))) (av_nil)))) (av_nil))))
end
end K73
/-! k73: askings left out, in plain Lean. -/
namespace VL
open PySem PySem.Spec PyProof.Rows L2
/-- the books asked, the one asked last first -/
def lastR : List Str → List Str
  | [] => []
  | b :: w => if b ∈ lastR w then lastR w else lastR w ++ [b]
theorem lastR_cons (b : Str) (w : List Str) : lastR (b :: w) = if b ∈ lastR w then lastR w else lastR w ++ [b] := rfl
theorem lastR_mem : ∀ (w : List Str) (x : Str), x ∈ lastR w ↔ x ∈ w
  | [], x => by simp [lastR]
  | b :: w, x => by
    have ih := lastR_mem w x
    unfold lastR
    by_cases h : b ∈ lastR w
    · rw [if_pos h, ih]
      have hb := (lastR_mem w b).mp h
      by_cases e : x = b
      · subst e; simp [hb]
      · simp [e]
    · rw [if_neg h, List.mem_append, ih, List.mem_singleton, List.mem_cons]
      exact Or.comm
theorem lastR_nodup : ∀ w : List Str, (lastR w).Nodup
  | [] => by simp [lastR]
  | b :: w => by
    have ih := lastR_nodup w
    unfold lastR
    by_cases h : b ∈ lastR w
    · rw [if_pos h]; exact ih
    · rw [if_neg h]
      refine List.nodup_append.mpr ⟨ih, by simp, fun x hx y hy e => ?_⟩
      rw [List.mem_singleton.mp hy] at e
      exact h (e ▸ hx)
theorem led_last : ∀ (w s : List Str), led s w = lastR w ++ s.filter fun x => !decide (x ∈ lastR w)
  | [], s => by
    simp only [led, lastR, List.nil_append, List.not_mem_nil, decide_false, Bool.not_false]
    exact (List.filter_eq_self.mpr fun _ _ => rfl).symm
  | b :: w, s => by
    have ih := led_last w (front s b)
    show led (front s b) w = _
    rw [ih]
    unfold front
    rw [lastR_cons]
    by_cases h : b ∈ lastR w
    · rw [if_pos h, List.filter_cons_of_neg (by simp [h]), List.filter_filter]
      congr 1
      apply List.filter_congr
      intro x _
      by_cases e : x = b
      · subst e; simp [h]
      · simp [e]
    · rw [if_neg h, List.filter_cons_of_pos (by simp [h]), List.filter_filter, List.append_assoc]
      congr 1
      show b :: _ = b :: _
      congr 1
      apply List.filter_congr
      intro x _
      by_cases e : x = b
      · subst e; simp
      · simp [e]
theorem lastR_skip {b : Str} {v : List Str} (h : b ∈ v) : ∀ u : List Str, lastR (u ++ b :: v) = lastR (u ++ v)
  | [] => by
    show lastR (b :: v) = lastR v
    rw [lastR_cons, if_pos ((lastR_mem v b).mpr h)]
  | c :: u => by
    show lastR (c :: (u ++ b :: v)) = lastR (c :: (u ++ v))
    have ih := lastR_skip h u
    rw [lastR_cons, lastR_cons, ih]
/-- what is left: each book's last asking -/
def thinR : List Str → List Str
  | [] => []
  | b :: w => if b ∈ w then thinR w else b :: thinR w
theorem lastR_thin : ∀ w : List Str, lastR (thinR w) = lastR w
  | [] => rfl
  | b :: w => by
    have ih := lastR_thin w
    unfold thinR
    by_cases h : b ∈ w
    · rw [if_pos h, ih]
      show _ = lastR (b :: w)
      rw [show lastR (b :: w) = if b ∈ lastR w then lastR w else lastR w ++ [b] from rfl, if_pos ((lastR_mem w b).mpr h)]
    · rw [if_neg h]
      show lastR (b :: thinR w) = lastR (b :: w)
      rw [show lastR (b :: thinR w) = if b ∈ lastR (thinR w) then lastR (thinR w) else lastR (thinR w) ++ [b] from rfl, ih]
      rfl
theorem led_same {s w v : List Str} (h : lastR w = lastR v) : led s w = led s v := by rw [led_last, led_last, h]
/-- two rows lead all shelves alike exactly if their deeds are one -/
theorem take_last {n : Nat} {p q : List Str} (hp : p.Nodup) (hq : q.Nodup) (e : p.Perm q) (hl : p.length = n) (h : p.take (n - 1) = q.take (n - 1)) : p = q := by
  have hlq : q.length = n := by rw [← e.length_eq]; exact hl
  by_cases hn : n = 0
  · rw [List.eq_nil_of_length_eq_zero (hl.trans hn), List.eq_nil_of_length_eq_zero (hlq.trans hn)]
  · have d1 : ∃ a, p.drop (n - 1) = [a] := by
      have : (p.drop (n - 1)).length = 1 := by rw [List.length_drop]; omega
      match hd : p.drop (n - 1), this with
      | [a], _ => exact ⟨a, rfl⟩
    have d2 : ∃ a, q.drop (n - 1) = [a] := by
      have : (q.drop (n - 1)).length = 1 := by rw [List.length_drop]; omega
      match hd : q.drop (n - 1), this with
      | [a], _ => exact ⟨a, rfl⟩
    obtain ⟨a, ha⟩ := d1
    obtain ⟨b, hb⟩ := d2
    have ep : p = p.take (n - 1) ++ [a] := by rw [← ha, List.take_append_drop]
    have eq : q = p.take (n - 1) ++ [b] := by rw [← hb, h, List.take_append_drop]
    have hperm : [a].Perm [b] := by
      rw [ep, eq] at e
      exact (List.perm_append_left_iff _).mp e
    have hab : a = b := by
      have := hperm.mem_iff.mp (List.mem_singleton.mpr rfl)
      exact List.mem_singleton.mp this
    rw [ep, eq, hab]
theorem led_len {s w : List Str} (hs : s.Nodup) (hw : ∀ b ∈ w, b ∈ s) : (lastR w).length ≤ s.length := by
  have e := (led_perm w hs hw).length_eq
  rw [led_last, List.length_append] at e
  omega
theorem deeds_iff {s w v : List Str} (hs : s.Nodup) (hw : ∀ b ∈ w, b ∈ s) (hv : ∀ b ∈ v, b ∈ s) : (∀ t, t.Perm s → led t w = led t v) ↔ (lastR w).take (s.length - 1) = (lastR v).take (s.length - 1) := by
  have main : ∀ {w v : List Str}, (∀ b ∈ w, b ∈ s) → (∀ b ∈ v, b ∈ s) → (lastR w).length ≤ (lastR v).length → (∀ t, t.Perm s → led t w = led t v) → (lastR w).take (s.length - 1) = (lastR v).take (s.length - 1) := by
    intro w v hw hv hlen h
    have lw := led_len hs hw
    have lv := led_len hs hv
    have hpre : lastR w = (lastR v).take (lastR w).length := by
      have e := h s (List.Perm.refl s)
      rw [led_last, led_last] at e
      have e2 := congrArg (List.take (lastR w).length) e
      rw [List.take_left, List.take_append_of_le_length hlen] at e2
      exact e2
    by_cases hc : s.length - 1 ≤ (lastR w).length
    · rw [hpre, List.take_take, Nat.min_eq_left hc]
    · by_cases he : (lastR w).length = (lastR v).length
      · rw [hpre, he, List.take_length]
      · exfalso
        have hlt : (lastR w).length < (lastR v).length := by omega
        have hbs : (lastR v)[(lastR w).length] ∈ s := hv _ ((lastR_mem v _).mp (List.getElem_mem hlt))
        have hbw : (lastR v)[(lastR w).length] ∉ lastR w := fun z => by
          have sub : ∀ y, y ∈ lastR w → y ∈ (lastR v).take (lastR w).length := fun y hy => by rw [← hpre]; exact hy
          obtain ⟨i, hi, ez⟩ := List.mem_iff_getElem.mp (sub _ z)
          rw [List.length_take] at hi
          rw [List.getElem_take] at ez
          have i1 := List.Nodup.idxOf_getElem (lastR_nodup v) i (by omega)
          have i2 := List.Nodup.idxOf_getElem (lastR_nodup v) (lastR w).length hlt
          rw [ez, i2] at i1
          omega
        -- another book outside
        have hother : ∃ c ∈ s, c ∉ lastR w ∧ c ≠ (lastR v)[(lastR w).length] := by
          have hf : (s.filter fun x => !decide (x ∈ lastR w)).length = s.length - (lastR w).length := by
            have e := (led_perm w hs hw).length_eq
            rw [led_last, List.length_append] at e
            omega
          have hfn : (s.filter fun x => !decide (x ∈ lastR w)).Nodup := hs.sublist List.filter_sublist
          have h2 : 2 ≤ (s.filter fun x => !decide (x ∈ lastR w)).length := by omega
          match hL : s.filter (fun x => !decide (x ∈ lastR w)), hfn, h2 with
          | [], _, h2 => simp at h2
          | [_], _, h2 => simp at h2
          | c :: d :: r, hfn, _ =>
            have hcd : c ≠ d := fun e => by
              have := (List.nodup_cons.mp hfn).1
              exact this (e ▸ List.mem_cons_self)
            have mem : ∀ y, y ∈ c :: d :: r → y ∈ s ∧ y ∉ lastR w := fun y hy => by
              rw [← hL] at hy
              have := List.mem_filter.mp hy
              exact ⟨this.1, by simpa using this.2⟩
            by_cases hcb : c = (lastR v)[(lastR w).length]
            · exact ⟨d, (mem d (by simp)).1, (mem d (by simp)).2, fun e => hcd (hcb.trans e.symm)⟩
            · exact ⟨c, (mem c (by simp)).1, (mem c (by simp)).2, hcb⟩
        obtain ⟨c, hcs, hcw, hcb⟩ := hother
        have ht := front_perm hs hcs
        have e := h (front s c) ht
        have e1 : (led (front s c) w)[(lastR w).length]? = some c := by
          rw [led_last]
          unfold front
          rw [List.filter_cons_of_pos (by simp [hcw]), List.getElem?_append_right (Nat.le_refl _), Nat.sub_self]
          rfl
        have e2 : (led (front s c) v)[(lastR w).length]? = some ((lastR v)[(lastR w).length]) := by
          rw [led_last, List.getElem?_append_left hlt, List.getElem?_eq_getElem hlt]
        rw [e, e2] at e1
        exact hcb (Option.some.inj e1).symm
  constructor
  · intro h
    rcases Nat.le_total (lastR w).length (lastR v).length with hl | hl
    · exact main hw hv hl h
    · exact (main hv hw hl fun t ht => (h t ht).symm).symm
  · intro h t ht
    have hts : t.Nodup := ht.nodup_iff.mpr hs
    have tw : ∀ b ∈ w, b ∈ t := fun b hb => ht.mem_iff.mpr (hw b hb)
    have tv : ∀ b ∈ v, b ∈ t := fun b hb => ht.mem_iff.mpr (hv b hb)
    have pw := led_perm w hts tw
    have pv := led_perm v hts tv
    have lw := led_len hs hw
    have lv := led_len hs hv
    have hlt := ht.length_eq
    by_cases hc : (lastR w).length < s.length - 1
    · have e1 : (lastR w).take (s.length - 1) = lastR w := List.take_of_length_le (by omega)
      have e2 : (lastR v).length < s.length - 1 := by
        have := congrArg List.length h
        rw [e1, List.length_take] at this
        omega
      have e3 : (lastR v).take (s.length - 1) = lastR v := List.take_of_length_le (by omega)
      rw [e1, e3] at h
      exact led_same h
    · have e2 : s.length - 1 ≤ (lastR v).length := by
        have := congrArg List.length h
        rw [List.length_take, List.length_take] at this
        omega
      refine take_last (pw.nodup_iff.mpr hts) (pv.nodup_iff.mpr hts) (pw.trans pv.symm) (pw.length_eq.trans hlt) ?_
      rw [led_last, led_last, List.take_append_of_le_length (by omega), List.take_append_of_le_length e2]
      exact h
end VL
/-! k73: the walk's functions. -/
namespace K73
open PySem PySem.Spec PyProof.Rows L2 VL Sh
/-! ### drawings -/
theorem dip_wp {S : Sto} {n : Nat} {ws : List D} {k lim : Int} {Q : D → Sto → Prop} (h : S[n]? = some (some ws)) (hw : Wl k ws) (hk : k < 2 ^ 100) (h0 : 0 < lim) (h1 : lim < 1073741824)
    (q : ∀ (r : Int) (ws' : List D), 0 ≤ r → r < lim → Wl (k + 1) ws' → Q (.int r) (S.set n (some ws'))) : Ret (f_x_law_dip [.cel n, .int lim] S) Q := by
  obtain ⟨a, b, c, rfl, ha, hb, hb2, hc, hck⟩ := hw
  unfold f_x_law_dip
  simp only [ret_fnD, List.length_cons, List.length_nil, List.map_cons, List.map_nil, List.cons_append, List.nil_append]
  unfold s_x_law_dip
  simp [ret_ix_cel h, atI, ixN]
  split
  · rename_i hp
    simp [mDivmod, arg2, tupOf, h0, h1, ret_set_cel h, ixN]
    exact q _ _ (Int.emod_nonneg _ (by omega)) (Int.emod_lt_of_pos _ h0) ⟨_, _, _, rfl, Int.ediv_nonneg ha (by omega), hb, hb2, hc, by omega⟩
  · rename_i hn
    have h' := set_at (c := some [D.int a, D.int b, D.int (c + 1)]) h
    simp [ret_set_cel h, ixN, ret_ix_cel h', atI, ret_set_cel h']
    have hk2 : k + 1 < 2 ^ 101 := by
      have : (2 : Int) ^ 100 + 1 < 2 ^ 101 := by decide
      omega
    refine ⟨⟨big_of ?_, bigN (by decide)⟩, ⟨bigN (by decide), big_of ?_⟩, ?_⟩
    · omega
    · omega
    · have m5 := Int.emod_nonneg (b * 48271 + 7919 * (c + 1) + 149) (show (2147480009 : Int) ≠ 0 by decide)
      have m6 := Int.emod_lt_of_pos (b * 48271 + 7919 * (c + 1) + 149) (show (0 : Int) < 2147480009 by decide)
      generalize (b * 48271 + 7919 * (c + 1) + 149) % 2147480009 = u at m5 m6 ⊢
      have h2 := set_at (c := some [D.int a, D.int u, D.int (c + 1)]) h
      simp [ret_ix_cel h2, atI, ixN]
      exact ⟨bigN (by decide), h0, q _ _ (Int.emod_nonneg _ (by omega)) (Int.emod_lt_of_pos _ h0) ⟨_, _, _, rfl, ha, m5, by omega, by omega, by omega⟩⟩
section
variable {S : Sto} {n : Nat} {k : Int} {Q : D → Sto → Prop} {P : D → Sto → Prop}
theorem dip_up {lim : Int} (h : WellAt S n k) (hk : k < 2 ^ 100) (h0 : 0 < lim) (h1 : lim < 1073741824)
    (q : ∀ (r : Nat) (S' : Sto), (r : Int) < lim → (∃ ws, S' = S.set n (some ws)) → Up n S S' → WellAt S' n (k + 1) → Q (.int r) S') : Ret (f_x_law_dip [.cel n, .int lim] S) Q := by
  obtain ⟨ws, a, b⟩ := h
  have hn := (List.getElem?_eq_some_iff.mp a).1
  refine dip_wp a b hk h0 h1 fun r ws' r0 r1 hw => ?_
  obtain ⟨m, rfl⟩ : ∃ m : Nat, r = m := ⟨r.toNat, by omega⟩
  exact q m _ r1 ⟨_, rfl⟩ (up_set n S _) (wellAt_set0 hn hw)
/-- one of some things -/
theorem one_up {d : D} {xs : List D} (h : WellAt S n k) (hk : k < 2 ^ 100) (hd : (∀ S', seqOf S' d = some xs) ∧ ∀ z, d ≠ .str z) (h0 : xs ≠ []) (h1 : xs.length < 1073741824)
    (q : ∀ (x : D) (S' : Sto), x ∈ xs → (∃ ws, S' = S.set n (some ws)) → Up n S S' → WellAt S' n (k + 1) → Q x S') : Ret (f_x_law_one [.cel n, d] S) Q := by
  have hp : 0 < xs.length := List.length_pos_iff.mpr h0
  unfold f_x_law_one s_x_law_one
  have hl : Ret (mLen [d] S) fun r S1 => S1 = S ∧ r = .int xs.length := by
    unfold mLen arg1 inS
    cases d with
    | str z => exact absurd rfl (hd.2 z)
    | _ => simp only [hd.1]; (rw [ret_ok]; exact ⟨rfl, rfl⟩)
  walk_at "wp"
  refine hl.mono fun r S1 ⟨e1, e2⟩ => ?_
  subst e1 e2
  refine dip_up h hk (by omega) (by omega) fun m S' hm hset hu hw => ?_
  have e2 : ∃ x, atI xs (m : Int) = some x ∧ x ∈ xs := by
    have hm : m < xs.length := by omega
    exact ⟨xs[m], atI_nat (List.getElem?_eq_getElem hm), List.getElem_mem hm⟩
  obtain ⟨x, e3, hx⟩ := e2
  unfold mIx
  cases d with
  | str z => exact absurd rfl (hd.2 z)
  | _ => simp only [hd.1, e3]; rw [ret_ok]; exact q x S' hx hset hu hw
/-- a sign of a text -/
theorem ones_up {z : Str} (h : WellAt S n k) (hk : k < 2 ^ 100) (h0 : 0 < z.length) (h1 : z.length < 1000000)
    (q : ∀ (c : Nat) (S' : Sto), c ∈ z.cps.toList → (∃ ws, S' = S.set n (some ws)) → Up n S S' → WellAt S' n (k + 1) → Q (.str ⟨#[c]⟩) S') : Ret (f_x_law_one [.cel n, .str z] S) Q := by
  have hz : z.cps.toList.length = z.length := by simp [Str.length]
  unfold f_x_law_one s_x_law_one
  walk_at "wp"
  refine ⟨line_big (by omega), ?_⟩
  refine dip_up h hk (by omega) (by omega) fun m S' hm hset hu hw => ?_
  have hm : m < z.cps.toList.length := by omega
  rw [ret_ix_str (List.getElem?_eq_getElem hm) (line_big (by omega))]
  exact q _ S' (List.getElem_mem hm) hset hu hw
/-! ### words -/
def joinE (xs : List Str) : Str := Txt.join (Str.ofString "") xs
theorem joinE_cps : ∀ xs : List Str, (joinE xs).cps.toList = (xs.map fun x => x.cps.toList).flatten := by
  have key : ∀ xs : List Str, (Str.join (Str.ofString "") xs).cps.toList = (xs.map fun x => x.cps.toList).flatten := by
    intro xs
    induction xs with
    | nil => rfl
    | cons x r ih =>
      cases r with
      | nil =>
        show x.cps.toList = _
        simp
      | cons y r =>
        show (x ++ Str.ofString "" ++ Str.join (Str.ofString "") (y :: r)).cps.toList = _
        rw [str_cps_app, str_cps_app, ih]
        have e : (Str.ofString "").cps.toList = [] := rfl
        rw [e]
        simp
  intro xs
  unfold joinE
  rw [show Txt.join (Str.ofString "") xs = Str.join (Str.ofString "") xs from StrLaws.glued_eq_join _ _]
  exact key xs
theorem pigeon : ∀ (L xs : List Str), L.Nodup → (∀ x ∈ L, x ∈ xs) → L.length ≤ xs.length
  | [], xs, _, _ => Nat.zero_le _
  | a :: L, xs, hn, hs => by
    have ha := List.nodup_cons.mp hn
    have h1 := hs a List.mem_cons_self
    have ih := pigeon L (xs.erase a) ha.2 fun x hx => (List.mem_erase_of_ne (fun e => ha.1 (by rw [← e]; exact hx))).mpr (hs x (List.mem_cons_of_mem _ hx))
    rw [List.length_erase_of_mem h1] at ih
    have := List.length_pos_of_mem h1
    rw [List.length_cons]
    omega
def takenL : List Str := (["ahead", "all", "as", "ask", "at", "behind", "book", "by", "code", "cost", "end", "first", "fixed", "front", "in", "is"] : List Str) ++ (["last", "leave", "never", "next", "none", "of", "order", "place", "put", "shelf", "step", "take", "times", "to", "undo", "with", "done", "yes", "no", "back"] : List Str)
theorem taken_words : ∀ z ∈ c_WORDS, z ∈ takenL := by decide +kernel
theorem taken_q : ∀ z ∈ takenL, lastC z ≠ some 113 := by decide +kernel
theorem letters_nodup : letters.cps.toList.Nodup := by decide +kernel
def base6 (w : Str) : Str := cutS w none (some 6)
def candQ (w : Str) (c : Nat) : Str := base6 w ++ ⟨#[c]⟩ ++ Str.ofString "q"
def candZ (w : Str) (c : Nat) : Str := base6 w ++ ⟨#[c]⟩ ++ Str.ofString "z"
def cands (w : Str) : List Str := [w] ++ letters.cps.toList.map (candQ w) ++ letters.cps.toList.map (candZ w)
theorem base6_cps (w : Str) : (base6 w).cps.toList = w.cps.toList.take 6 := by
  unfold base6 cutS
  have e : HT.sIx w.length w.length (some 6) = min 6 w.length := HT.sIx_nat w.length w.length 6
  have e2 : w.length = w.cps.toList.length := by simp [Str.length]
  rw [e, HT.sIx_none]
  simp only [List.drop_zero, Nat.sub_zero]
  rw [e2]
  apply List.ext_getElem?
  intro i
  simp only [List.getElem?_take]
  by_cases h : i < 6
  · by_cases h2 : i < w.cps.toList.length
    · rw [if_pos (by omega), if_pos h]
    · rw [if_neg (by omega), if_pos h, List.getElem?_eq_none (by omega)]
  · rw [if_neg (by omega), if_neg h]
def Wd (w : Str) : Prop := (∀ c ∈ w.cps.toList, okC c) ∧ 1 ≤ w.length ∧ w.length ≤ 8
theorem cps_len (w : Str) : w.length = w.cps.toList.length := by simp [Str.length]
theorem cand_wd {w : Str} (hw : Wd w) {c d : Nat} (hc : okC c) (hd : okC d) : Wd (base6 w ++ ⟨#[c]⟩ ++ ⟨#[d]⟩) := by
  have e : (base6 w ++ ⟨#[c]⟩ ++ ⟨#[d]⟩ : Str).cps.toList = w.cps.toList.take 6 ++ [c] ++ [d] := by
    rw [str_cps_app, str_cps_app, base6_cps]
  refine ⟨fun x hx => ?_, ?_, ?_⟩
  · rw [e] at hx
    rcases List.mem_append.mp hx with h | h
    · rcases List.mem_append.mp h with h | h
      · exact hw.1 x (List.mem_of_mem_take h)
      · rw [List.mem_singleton.mp h]; exact hc
    · rw [List.mem_singleton.mp h]; exact hd
  · rw [cps_len, e]; simp
  · rw [cps_len, e]; simp; omega
theorem cands_wd {w z : Str} (hw : Wd w) (hz : z ∈ cands w) : Wd z := by
  have hq : Str.ofString "q" = ⟨#[113]⟩ := rfl
  have hzz : Str.ofString "z" = ⟨#[122]⟩ := rfl
  unfold cands at hz
  rcases List.mem_append.mp hz with h | h
  · rcases List.mem_append.mp h with h | h
    · rw [List.mem_singleton.mp h]; exact hw
    · obtain ⟨c, hc, rfl⟩ := List.mem_map.mp h
      unfold candQ
      rw [hq]
      exact cand_wd hw (letters_ok c hc) (by unfold okC; omega)
  · obtain ⟨c, hc, rfl⟩ := List.mem_map.mp h
    unfold candZ
    rw [hzz]
    exact cand_wd hw (letters_ok c hc) (by unfold okC; omega)
theorem cand_free (w : Str) {xs : List Str} (hx : xs.length ≤ 20) : ∃ z ∈ cands w, z ∉ xs ++ takenL := by
  refine Classical.byContradiction fun no => ?_
  have all : ∀ z ∈ letters.cps.toList.map (candQ w), z ∈ xs := fun z hz => by
    have hc : z ∈ cands w := by
      unfold cands
      exact List.mem_append_left _ (List.mem_append_right _ hz)
    have h1 : z ∈ xs ++ takenL := Classical.byContradiction fun h => no ⟨z, hc, h⟩
    rcases List.mem_append.mp h1 with h | h
    · exact h
    · exfalso
      obtain ⟨c, _, rfl⟩ := List.mem_map.mp hz
      refine taken_q _ h ?_
      unfold candQ
      rw [show Str.ofString "q" = ⟨#[113]⟩ from rfl]
      exact str_last_app _ _
  have nd : (letters.cps.toList.map (candQ w)).Nodup := by
    rw [List.Nodup, List.pairwise_map]
    refine List.Pairwise.imp_of_mem ?_ letters_nodup
    intro c d _ _ hcd e
    have e2 := congrArg (fun z : Str => z.cps.toList) e
    unfold candQ at e2
    simp only [str_cps_app] at e2
    have e3 := List.append_inj_left' e2 rfl
    have e4 := List.append_inj_right' e3 rfl
    exact hcd (by simpa using e4)
  have := pigeon _ xs nd all
  rw [List.length_map, show letters.cps.toList.length = 26 by decide +kernel] at this
  omega
theorem ret_add_celst {m : Nat} {ds es : List D} (h : S[m]? = some (some ds)) : Ret (mAdd (.cel m) (.lst es) S) P = (ds.length + es.length ≤ LINE ∧ P (.lst (ds ++ es)) S) := by
  have e1 : mAdd (.cel m) (.lst es) S = if ds.length + es.length ≤ LINE then .ok (.lst (ds ++ es)) S else .bad := by
    unfold mAdd mutOf
    simp only [VL.listOf, h, Option.join_some]
  rw [e1, ret_iteb, ret_ok]
theorem ret_notin_lst {x : Str} {xs : List Str} : Ret (mIn true (.str x) (.lst (xs.map D.str)) S) P = P (.bl (!decide (x ∈ xs))) S := by
  have h := any_eqv x xs
  have h3 := depthAll_map xs
  have e : pys (xs.map D.str) = some (xs.map Dat.py) := pys_map xs
  have e1 : mIn true (.str x) (.lst (xs.map D.str)) S = .ok (.bl (!decide (x ∈ xs))) S := by
    unfold mIn
    simp only [pyOf, D.py]
    rw [e]
    simp only [Option.map_some]
    rw [if_pos (by
      have : (PyData.str x).depth = 0 := rfl
      rw [this]; omega)]
    have h' : ((xs.map Dat.py).any fun y => PyData.eqv y (.str x)) = decide (x ∈ xs) := h
    rw [h']
    rfl
  rw [e1, ret_ok]
theorem ret_join {xs : List Str} (h : (xs.map (·.length)).sum ≤ LINE) : Ret (mJoin (.str (Str.ofString "")) [.lst (xs.map D.str)] S) P = P (.str (joinE xs)) S := by
  have e0 : (Str.ofString "").length = 0 := rfl
  have e1 : mJoin (.str (Str.ofString "")) [.lst (xs.map D.str)] S = .ok (.str (joinE xs)) S := by
    have es : ∀ ys : List Str, strsOf (ys.map D.str) = some ys := by
      intro ys
      induction ys with
      | nil => rfl
      | cons y ys ih =>
        show (strsOf (ys.map D.str)).map (y :: ·) = _
        rw [ih]
        rfl
    unfold mJoin arg1
    simp only []
    rw [show seqOf S (.lst (xs.map D.str)) = some (xs.map D.str) from rfl, Option.bind_some, es]
    simp only []
    rw [if_pos (by rw [e0]; omega)]
    rfl
  rw [e1, ret_ok]
theorem ret_slstr {z : Str} {lo hi : Option Int} : Ret (mSl (.str z) lo hi S) P = (z.length ≤ LINE ∧ P (.str (cutS z lo hi)) S) := by
  rw [show mSl (.str z) lo hi S = if z.length ≤ LINE then .ok (.str (cutS z lo hi)) S else .bad from rfl, ret_iteb, ret_ok]
theorem words_up {m : Nat} (h : WellAt S n k) (hk : k + 10000 < 2 ^ 100) (hm : m ≤ 7) (q : ∀ (xs : List Str) (S' : Sto), xs.length = m → Shelf xs → Up n S S' → WellAt S' n (k + 100) → Q (.lst (xs.map D.str)) S') : Ret (f_x_law_words [.cel n, .int m] S) Q := by
  have hn := h.lt
  unfold f_x_law_words s_x_law_words
  have b0 : ∀ j : Nat, j ≤ 100 → j ≤ LINE := fun j hj => line_big (by omega)
  walk_at "wp"
  refine ⟨b0 _ (by decide), b0 _ (by decide), b0 _ (by decide), b0 _ (by decide), b0 _ (by decide), b0 _ (by decide), b0 _ (by decide), b0 _ (by decide), b0 _ (by decide), b0 _ (by decide), b0 _ (by decide), ?_⟩
  rw [ret_range (by omega)]
  have hS : WellAt (S ++ [some []]) n k := h.same (same_app _ _)
  refine for_wp (fun i en st => (∃ a b c : Option D, en = [some (.cel n), some (.int m), some (.lst (takenL.map D.str)), a, some (.str letters), some (.cel S.length), b, c, none, none, none]) ∧ Up n S st ∧ WellAt st n (k + 12 * i) ∧ ∃ xs : List Str, st[S.length]? = some (some (xs.map D.str)) ∧ xs.length = i ∧ Shelf xs) _ 0 _ _ ⟨⟨none, none, none, rfl⟩, (same_app _ _).up n, by simpa using hS, [], cel_back, rfl, ⟨List.nodup_nil, fun x hx => by simp at hx⟩⟩ ?_ ?_
  · rintro i d en st hd ⟨⟨a, b, c, rfl⟩, hu, hw, xs, hat, hxl, hxs⟩
    obtain ⟨hi, rfl⟩ := range_get hd
    rw [Nat.zero_add] at hw hxl ⊢
    have hlt : S.length < st.length := (List.getElem?_eq_some_iff.mp hat).1
    have hne : S.length ≠ n := by omega
    have stay : ∀ {st2 : Sto}, Up n st st2 → st2[S.length]? = some (some (xs.map D.str)) := fun u => (u.at_ _ hlt hne).trans hat
    walk_at "wp"
    refine ⟨b0 _ (by decide), ?_⟩
    refine one_up hw (by omega) ⟨fun _ => rfl, fun z e => nomatch e⟩ (by simp) (by decide) fun x S1 hx _ hu1 hw1 => ?_
    obtain ⟨j, rfl, hj1, hj8⟩ : ∃ j : Nat, x = .int j ∧ 1 ≤ j ∧ j ≤ 8 := by
      simp at hx
      rcases hx with e | e | e
      · exact ⟨2, e, by decide, by decide⟩
      · exact ⟨3, e, by decide, by decide⟩
      · exact ⟨8, e, by decide, by decide⟩
    refine dip_up hw1 (by omega) (by omega) (by omega) fun r S2 hr _ hu2 hw2 => ?_
    walk_at "wp"
    rw [show (1 : Int) + (r : Int) = ((1 + r : Nat) : Int) by omega, ret_range (by omega)]
    refine comp_wp (fun t acc st2 => Up n st st2 ∧ WellAt st2 n (k + 12 * i + 2 + t) ∧ ∃ cs : List Nat, acc = cs.map (fun c : Nat => D.str ⟨#[c]⟩) ∧ cs.length = t ∧ ∀ c ∈ cs, okC c) _ 0 _ _ ⟨hu1.trans hu2, hw2.mono (by omega), [], rfl, rfl, fun c hc => by simp at hc⟩ ?_ ?_
    · rintro t d acc st2 hd2 ⟨hu3, hw3, cs, rfl, hcl, hcs⟩
      obtain ⟨ht, rfl⟩ := range_get hd2
      rw [Nat.zero_add] at hw3 hcl ⊢
      walk_at "wp"
      refine ones_up hw3 (by omega) (by rw [letters_len]; decide) (by rw [letters_len]; decide) fun c S3 hc _ hu4 hw4 => ?_
      refine ⟨by unfold LINE; omega, hu3.trans hu4, hw4.mono (by omega), cs ++ [c], by rw [List.map_append]; rfl, by simp [hcl], fun c2 hc2 => ?_⟩
      rcases List.mem_append.mp hc2 with z | z
      · exact hcs c2 z
      · rw [List.mem_singleton.mp z]; exact letters_ok c hc
    · rintro acc st2 ⟨hu3, hw3, cs, rfl, hcl, hcs⟩
      rw [Nat.zero_add, List.length_map, List.length_range] at hw3 hcl
      have e1 : cs.map (fun c : Nat => D.str ⟨#[c]⟩) = (cs.map fun c : Nat => (⟨#[c]⟩ : Str)).map D.str := by rw [List.map_map]; rfl
      have sum1 : ∀ L : List Nat, ((L.map fun c : Nat => (⟨#[c]⟩ : Str)).map (·.length)).sum = L.length := by
        intro L
        induction L with
        | nil => rfl
        | cons a L ih => rw [List.map_cons, List.map_cons, List.sum_cons, ih, List.length_cons, show (⟨#[a]⟩ : Str).length = 1 from rfl]; omega
      rw [e1, ret_join (by rw [sum1]; exact b0 _ (by omega))]
      have hcps : (joinE (cs.map fun c : Nat => (⟨#[c]⟩ : Str))).cps.toList = cs := by
        rw [joinE_cps, List.map_map]
        clear e1 sum1 hcl hcs hw3
        induction cs with
        | nil => rfl
        | cons a L ih => rw [List.map_cons, List.flatten_cons, ih]; rfl
      generalize joinE (cs.map fun c : Nat => (⟨#[c]⟩ : Str)) = w at hcps
      have hw8 : Wd w := ⟨fun c hc => hcs c (by rw [hcps] at hc; exact hc), by rw [cps_len, hcps]; omega, by rw [cps_len, hcps]; omega⟩
      have hb6 : (base6 w).length ≤ 6 := by rw [cps_len, base6_cps, List.length_take]; omega
      have candL : ∀ (f : Nat → Str) (tl : Str), tl.length = 1 → (∀ c, f c = base6 w ++ ⟨#[c]⟩ ++ tl) → ∀ {PL : List D → Sto → Prop} {x0 x1 x2 x3 x4 x5 x7 x8 x9 x10 : Option D}, PL (letters.cps.toList.map fun c => D.str (f c)) st2 → Ret (compL (gN 9) tYesM (VL.e2 mAdd (VL.e2 mAdd (eSl (eVar 6) oNone (oSome (eC (D.int 6)))) (eVar 9)) (eC (D.str tl))) [x0, x1, x2, x3, x4, x5, some (.str w), x7, x8, x9, x10] (letters.cps.toList.map fun c => .str ⟨#[c]⟩) [] st2) PL := fun f tl htl hf {PL x0 x1 x2 x3 x4 x5 x7 x8 x9 x10} hq => by
        refine comp_pure (enc := fun c : Nat => D.str ⟨#[c]⟩) (p := fun _ => true) (k := fun c => D.str (f c)) (fun c hc => ?_) (b0 _ (by decide +kernel)) ?_
        · walk_at "wp"
          refine fun _ => ?_
          rw [ret_slstr]
          refine ⟨b0 _ (by have := hw8.2.2; omega), ?_⟩
          walk_at "wp"
          have e1 : (⟨#[c]⟩ : Str).length = 1 := rfl
          refine ⟨b0 _ (by rw [e1]; show (base6 w).length + 1 ≤ _; omega), b0 _ (by rw [str_len_app, e1, htl]; show (base6 w).length + 1 + 1 ≤ _; omega), ?_⟩
          rw [hf c]
          rfl
        · rw [List.filter_eq_self.mpr (fun _ _ => rfl)]
          exact hq
      refine ⟨b0 _ (by decide), ?_⟩
      rw [ret_iter_str]
      refine candL (candQ w) (Str.ofString "q") rfl (fun _ => rfl) ?_
      refine ⟨b0 _ (by rw [List.length_map, show letters.cps.toList.length = 26 by decide +kernel]; decide), ?_⟩
      rw [ret_iter_str]
      refine candL (candZ w) (Str.ofString "z") rfl (fun _ => rfl) ?_
      refine ⟨b0 _ (by rw [List.length_map, List.length_map, show letters.cps.toList.length = 26 by decide +kernel]; decide), ?_⟩
      rw [live_cel (stay hu3)]
      have e5 : D.str w :: ((letters.cps.toList.map fun c => D.str (candQ w c)) ++ letters.cps.toList.map fun c => D.str (candZ w c)) = (cands w).map D.str := by
        unfold cands
        rw [List.map_append, List.map_append, List.map_map, List.map_map]
        rfl
      rw [e5]
      refine comp_pure (enc := D.str) (p := fun z => !decide (z ∈ xs ++ takenL)) (k := D.str) (fun z hz => ?_) (line_big (by unfold cands; simp only [List.length_append, List.length_map, List.length_singleton, show letters.cps.toList.length = 26 by decide +kernel]; omega)) ?_
      · walk_at "wp"
        rw [ret_add_celst (stay hu3), ← List.map_append, ret_notin_lst]
        refine ⟨by rw [List.length_map, List.length_map, show takenL.length = 36 by decide +kernel]; exact b0 _ (by omega), ?_⟩
        walk_at "wp"
        exact fun _ => trivial
      · obtain ⟨z0, hz0, hz1⟩ := cand_free w (xs := xs) (by omega)
        have hmem : z0 ∈ (cands w).filter fun z => !decide (z ∈ xs ++ takenL) := List.mem_filter.mpr ⟨hz0, by simp only [hz1, decide_false, Bool.not_false]⟩
        cases hf : (cands w).filter (fun z => !decide (z ∈ xs ++ takenL)) with
        | nil => rw [hf] at hmem; simp at hmem
        | cons y ys =>
          have hy : y ∈ (cands w).filter fun z => !decide (z ∈ xs ++ takenL) := by rw [hf]; exact List.mem_cons_self
          obtain ⟨hy1, hy2⟩ := List.mem_filter.mp hy
          have hy3 : y ∉ xs ++ takenL := by simpa using hy2
          have hwd := cands_wd hw8 hy1
          have a0 : atI ((y :: ys).map D.str) ((0 : Nat) : Int) = some (D.str y) := atI_nat rfl
          have a0 : atI ((y :: ys).map D.str) (0 : Int) = some (D.str y) := a0
          rw [a0]
          show Ret (mAppend (D.cel S.length) [D.str y] st2) _
          rw [ret_append (stay hu3)]
          have hl2 := (List.getElem?_eq_some_iff.mp (stay hu3)).1
          refine ⟨by rw [List.length_map]; unfold LINE; omega, ⟨_, _, _, rfl⟩, ?_, ?_, xs ++ [y], ?_, by simp [hxl], ?_, ?_⟩
          · refine ⟨by rw [List.length_set]; exact (hu.trans hu3).le, fun i2 hi2 hni => ?_⟩
            rw [List.getElem?_set_ne (by omega)]
            exact (hu.trans hu3).at_ i2 hi2 hni
          · obtain ⟨ws, g1, g2⟩ := hw3
            exact ⟨ws, by rw [List.getElem?_set_ne (by omega)]; exact g1, g2.mono (by omega)⟩
          · rw [List.getElem?_set_self hl2, List.map_append]
            rfl
          · refine List.nodup_append.mpr ⟨hxs.1, by simp, fun a ha b hb e => ?_⟩
            rw [List.mem_singleton.mp hb] at e
            exact hy3 (List.mem_append_left _ (e ▸ ha))
          · intro x hx
            rcases List.mem_append.mp hx with z | z
            · exact hxs.2 x z
            · rw [List.mem_singleton.mp z]
              exact ⟨hwd.1, hwd.2.1, hwd.2.2, fun hw => hy3 (List.mem_append_right _ (taken_words y hw))⟩
  · rintro en st ⟨⟨a, b, c, rfl⟩, hu, hw, xs, hat, hxl, hxs⟩
    rw [Nat.zero_add, List.length_map, List.length_range] at hw hxl
    have hlt : S.length < st.length := (List.getElem?_eq_some_iff.mp hat).1
    walk_at "wp"
    rw [hat]
    simp only [Option.join_some]
    have hu2 : Same st (st.set S.length none) ∨ True := .inr trivial
    refine q xs _ hxl hxs ⟨by rw [List.length_set]; exact hu.le, fun i hi hni => ?_⟩ ?_
    · rw [List.getElem?_set_ne (by omega)]
      exact hu.at_ i hi hni
    · obtain ⟨ws, g1, g2⟩ := hw
      exact ⟨ws, by rw [List.getElem?_set_ne (by omega)]; exact g1, g2.mono (by omega)⟩
end
end K73
/-! k73: shelves, askings, orders, ends; what the program does. -/
namespace K73
open PySem PySem.Spec PyProof.Rows L2 VL Sh
section
variable {S : Sto} {n : Nat} {k : Int} {Q : D → Sto → Prop} {P : D → Sto → Prop}
theorem shelf_up {most : Nat} (h : WellAt S n k) (hk : k + 20000 < 2 ^ 100) (h1 : 1 ≤ most) (h7 : most ≤ 7) (q : ∀ (xs : List Str) (S' : Sto), Shelf xs → 1 ≤ xs.length → xs.length ≤ most → Up n S S' → WellAt S' n (k + 200) → Q (tupD xs) S') : Ret (f_x_law_shelf [.cel n, .int most] S) Q := by
  unfold f_x_law_shelf s_x_law_shelf
  walk_at "wp"
  refine dip_up h (by omega) (by omega) (by omega) fun r S1 hr _ hu1 hw1 => ?_
  walk_at "wp"
  rw [show (1 : Int) + (r : Int) = ((1 + r : Nat) : Int) by omega]
  refine words_up hw1 (by omega) (by omega) fun xs S2 hx hs hu2 hw2 => ?_
  walk_at "wp"
  refine ⟨line_big (by omega), q xs S2 hs (by omega) (by omega) (hu1.trans hu2) (hw2.mono (by omega))⟩
theorem asks_up {most : Nat} {xs : List Str} (h : WellAt S n k) (hk : k + 20000 < 2 ^ 100) (hm : most ≤ 100) (h0 : xs ≠ []) (hl : xs.length ≤ 100)
    (q : ∀ (ys : List Str) (S' : Sto), ys.length ≤ most → (∀ y ∈ ys, y ∈ xs) → Up n S S' → WellAt S' n (k + 200) → Q (tupD ys) S') : Ret (f_x_law_asks [.cel n, tupD xs, .int most] S) Q := by
  have hp : 0 < xs.length := List.length_pos_iff.mpr h0
  unfold f_x_law_asks s_x_law_asks
  walk_at "wp"
  refine dip_up h (by omega) (by omega) (by omega) fun r S1 hr _ hu1 hw1 => ?_
  walk_at "wp"
  have go : ∀ (zs : List Str) (S2 : Sto), zs ≠ [] → zs.length ≤ 100 → (∀ z ∈ zs, z ∈ xs) → Up n S S2 → WellAt S2 n (k + 2) → Ret (f_x_law_dip [.cel n, .int ((most : Int) + 1)] S2) fun d S3 => Ret (mRange1 [d] S3) fun ds S4 => Ret (compL (gN 4) tYesM (eCall (mArgs 2 f_x_law_one) (aCons (eVar 0) (aCons (eVar 3) aNil))) [some (.cel n), some (tupD xs), some (.int most), some (tupD zs), none] ds [] S4) fun ws S5 => ws.length ≤ LINE ∧ Q (.tup ws) S5 := fun zs S2 hz hzl hzs hu2 hw2 => by
    refine dip_up hw2 (by omega) (by omega) (by omega) fun m S3 hm3 _ hu3 hw3 => ?_
    rw [ret_range (by omega)]
    refine comp_wp (fun i acc st => ∃ ys : List Str, acc = ys.map D.str ∧ Up n S st ∧ ys.length = i ∧ WellAt st n (k + 3 + i) ∧ ∀ y ∈ ys, y ∈ xs) _ 0 _ _ ⟨[], rfl, hu2.trans hu3, rfl, hw3.mono (by omega), by simp⟩ ?_ ?_
    · rintro i d acc st hd ⟨ys, rfl, hu4, hy, hw4, hys⟩
      obtain ⟨hi, rfl⟩ := range_get hd
      rw [Nat.zero_add] at hy hw4 ⊢
      walk_at "wp"
      refine one_up hw4 (by omega) ⟨fun _ => rfl, fun z e => nomatch e⟩ (by simpa using hz) (by rw [List.length_map]; omega) fun x S5 hx _ hu5 hw5 => ?_
      obtain ⟨z, hz2, rfl⟩ := mem_d hx
      refine ⟨by unfold LINE; omega, ys ++ [z], by rw [List.map_append]; rfl, hu4.trans hu5, by simp [hy], hw5.mono (by omega), fun y hy2 => ?_⟩
      rcases List.mem_append.mp hy2 with e | e
      · exact hys y e
      · rw [List.mem_singleton.mp e]; exact hzs z hz2
    · rintro acc st ⟨ys, rfl, hu4, hy, hw4, hys⟩
      rw [Nat.zero_add, List.length_map, List.length_range] at hy hw4
      refine ⟨line_big (by rw [List.length_map]; omega), q ys st (by omega) hys hu4 (hw4.mono (by omega))⟩
  split
  · refine dip_up hw1 (by omega) (by omega) (by omega) fun r2 S2 hr2 _ hu2 hw2 => ?_
    walk_at "wp"
    rw [show (1 : Int) + (r2 : Int) = ((1 + r2 : Nat) : Int) by omega, cut_takeA, ← List.map_take]
    refine go (xs.take (1 + r2)) S2 (fun z => ?_) (by rw [List.length_take]; omega) (fun z hz => List.mem_of_mem_take hz) (hu1.trans hu2) (hw2.mono (by omega))
    have := congrArg List.length z
    rw [List.length_take, List.length_nil] at this
    omega
  · exact go xs S1 h0 hl (fun z hz => hz) hu1 (hw1.mono (by omega))
theorem ask_wp {xs : List Str} {b : Str} (hl : xs.length ≤ 1000) (q : Q (tupD (front xs b)) S) : Ret (f_x_law_ask [tupD xs, .str b] S) Q := by
  unfold f_x_law_ask s_x_law_ask
  walk_at "wp"
  refine ⟨line_big (by decide), ?_⟩
  have hf := List.length_filter_le (fun y => !decide (y = b)) xs
  refine comp_pure (enc := Dat.d) (p := fun y => !decide (y = b)) (k := Dat.d) (fun y hy => ?_) (line_big (by omega)) ?_
  · walk_at "wp"
    rw [show D.str b = Dat.d b from rfl, ret_ne (α := Str) (by decide)]
    walk_at "wp"
    exact fun _ => trivial
  · walk_at "wp"
    exact ⟨line_big (by omega), line_big (by omega), q⟩
theorem ledK_wp {xs : List Str} {bs : List Str} (hl : xs.length + bs.length ≤ 1000) (q : Q (tupD (led xs bs)) S) : Ret (f_x_law_led [tupD xs, tupD bs] S) Q := by
  unfold f_x_law_led s_x_law_led
  walk_at "wp"
  refine for_wp (fun i en st => st = S ∧ ∃ (ys : List Str) (x : Option D), en = [some (tupD ys), some (tupD bs), x] ∧ led ys (bs.drop i) = led xs bs ∧ ys.length + (bs.drop i).length ≤ 1000) _ 0 _ _ ⟨rfl, xs, none, rfl, by simp, by simpa using hl⟩ ?_ ?_
  · rintro i d en st hd ⟨rfl, ys, x, rfl, e, hy⟩
    rw [List.getElem?_map, Option.map_eq_some_iff] at hd
    obtain ⟨b, hb, rfl⟩ := hd
    rw [Nat.zero_add] at e hy ⊢
    rw [drop_cons hb] at e hy
    rw [List.length_cons] at hy
    walk_at "wp"
    refine ask_wp (by omega) ?_
    have := front_len (xs := ys) (b := b)
    exact ⟨rfl, front ys b, _, rfl, e, by omega⟩
  · rintro en st ⟨rfl, ys, x, rfl, e, hy⟩
    rw [Nat.zero_add, List.length_map, List.drop_length] at e
    walk_at "wp"
    have e : ys = led xs bs := e
    rw [e]
    exact q
/-! ### all orders -/
def ordS (ys : List Str) : Nat → List (List Str)
  | 0 => [[]]
  | m + 1 => (ordS ys m).flatMap fun row => (ys.filter fun b => !decide (b ∈ row)).map fun b => row ++ [b]
theorem ordS_sound {ys : List Str} : ∀ {m : Nat} {t : List Str}, t ∈ ordS ys m → t.length = m ∧ t.Nodup ∧ ∀ x ∈ t, x ∈ ys
  | 0, t, h => by
    have : t = [] := by simpa [ordS] using h
    subst this
    exact ⟨rfl, List.nodup_nil, fun x hx => by simp at hx⟩
  | m + 1, t, h => by
    obtain ⟨row, h1, h2⟩ := List.mem_flatMap.mp h
    obtain ⟨b, h3, rfl⟩ := List.mem_map.mp h2
    obtain ⟨h4, h5, h6⟩ := ordS_sound h1
    obtain ⟨hb, hb2⟩ := List.mem_filter.mp h3
    have hb2 : b ∉ row := by simpa using hb2
    refine ⟨by simp [h4], List.nodup_append.mpr ⟨h5, by simp, fun x hx y hy e => ?_⟩, fun x hx => ?_⟩
    · rw [List.mem_singleton.mp hy] at e
      exact hb2 (e ▸ hx)
    · rcases List.mem_append.mp hx with z | z
      · exact h6 x z
      · rw [List.mem_singleton.mp z]; exact hb
theorem ordS_complete {ys : List Str} : ∀ (m : Nat) (t : List Str), t.length = m → t.Nodup → (∀ x ∈ t, x ∈ ys) → t ∈ ordS ys m
  | 0, t, hl, _, _ => by
    rw [List.eq_nil_of_length_eq_zero hl]
    simp [ordS]
  | m + 1, t, hl, hn, hs => by
    rcases List.eq_nil_or_concat t with e | ⟨u, b, e⟩
    · subst e; simp at hl
    · subst e
      rw [List.concat_eq_append] at *
      have hu : u.length = m := by simpa using hl
      have hn2 := List.nodup_append.mp hn
      refine List.mem_flatMap.mpr ⟨u, ordS_complete m u hu hn2.1 fun x hx => hs x (List.mem_append_left _ hx), List.mem_map.mpr ⟨b, List.mem_filter.mpr ⟨hs b (by simp), ?_⟩, rfl⟩⟩
      have : b ∉ u := fun z => hn2.2.2 b z b (by simp) rfl
      simp [this]
theorem ordS_perm {s ys t : List Str} (hs : s.Nodup) (hp : ys.Perm s) : t ∈ ordS ys ys.length ↔ t.Perm s := by
  have hy : ys.Nodup := hp.nodup_iff.mpr hs
  constructor
  · intro h
    obtain ⟨h1, h2, h3⟩ := ordS_sound h
    refine List.Perm.trans ?_ hp
    refine (List.perm_ext_iff_of_nodup h2 hy).mpr fun x => ⟨h3 x, fun hx => ?_⟩
    refine Classical.byContradiction fun no => ?_
    have := pigeon (x :: t) ys (List.nodup_cons.mpr ⟨no, h2⟩) fun z hz => by
      rcases List.mem_cons.mp hz with e | e
      · rw [e]; exact hx
      · exact h3 z e
    rw [List.length_cons] at this
    omega
  · intro h
    have h2 := h.trans hp.symm
    exact ordS_complete _ t h2.length_eq (h2.nodup_iff.mpr hy) fun x hx => h2.mem_iff.mp hx
theorem ordS_len (ys : List Str) : ∀ m, (ordS ys m).length ≤ ys.length ^ m
  | 0 => Nat.le_refl _
  | m + 1 => by
    have ih := ordS_len ys m
    unfold ordS
    rw [List.length_flatMap]
    have key : ∀ L : List (List Str), (L.map fun row => ((ys.filter fun b => !decide (b ∈ row)).map fun b => row ++ [b]).length).sum ≤ L.length * ys.length := by
      intro L
      induction L with
      | nil => simp
      | cons r L ih2 =>
        rw [List.map_cons, List.sum_cons, List.length_cons, Nat.add_mul, Nat.one_mul]
        have := List.length_filter_le (fun b => !decide (b ∈ r)) ys
        rw [List.length_map]
        omega
    have h2 := key (ordS ys m)
    have h3 : (ordS ys m).length * ys.length ≤ ys.length ^ m * ys.length := Nat.mul_le_mul_right _ ih
    rw [Nat.pow_succ]
    omega
theorem orders_wp {ys : List Str} (hl : ys.length ≤ 4) (q : P (.lst ((ordS ys ys.length).map Dat.d)) S) : Ret (f_x_law_orders [.lst (ys.map D.str)] S) P := by
  have pw : ∀ i, i ≤ ys.length → ys.length ^ i ≤ 256 := fun i hi => by
    have h1 : ys.length ^ i ≤ 4 ^ i := Nat.pow_le_pow_left hl i
    have h2 : 4 ^ i ≤ 4 ^ 4 := Nat.pow_le_pow_right (by decide) (by omega)
    have h3 : (4 : Nat) ^ 4 = 256 := by decide
    omega
  unfold f_x_law_orders s_x_law_orders
  walk_at "wp"
  refine ⟨Nat.zero_le _, line_big (by decide), ?_⟩
  rw [ret_range (by omega)]
  refine for_wp (fun i en st => st = S ∧ ∃ a b c, en = [some (.lst (ys.map D.str)), some (.lst ((ordS ys i).map Dat.d)), a, b, c, none]) _ 0 _ _ ⟨rfl, none, none, none, rfl⟩ ?_ ?_
  · rintro i d en st hd ⟨rfl, a, b, c, rfl⟩
    obtain ⟨hi, rfl⟩ := range_get hd
    rw [Nat.zero_add]
    walk_at "wp"
    refine ⟨Nat.zero_le _, ?_⟩
    refine for_wp (fun j en st2 => st2 = st ∧ ∃ c, en = [some (.lst (ys.map D.str)), some (.lst ((ordS ys i).map Dat.d)), some (.int i), some (.lst ((((ordS ys i).take j).flatMap fun row => (ys.filter fun b => !decide (b ∈ row)).map fun b => row ++ [b]).map Dat.d)), c, none]) _ 0 _ _ ⟨rfl, c, rfl⟩ ?_ ?_
    · rintro j d en st2 hd2 ⟨rfl, c, rfl⟩
      rw [List.getElem?_map, Option.map_eq_some_iff] at hd2
      obtain ⟨row, hrow, rfl⟩ := hd2
      rw [Nat.zero_add]
      have hj := (List.getElem?_eq_some_iff.mp hrow).1
      have hol := ordS_len ys i
      have hpi := pw i (by omega)
      obtain ⟨hrl, _, _⟩ := ordS_sound (List.mem_of_getElem? hrow)
      have hfl := List.length_filter_le (fun b => !decide (b ∈ row)) ys
      walk_at "wp"
      refine comp_pure (enc := D.str) (p := fun b => !decide (b ∈ row)) (k := fun b => tupD (row ++ [b])) (fun x hx => ?_) (line_big (by omega)) ?_
      · walk_at "wp"
        show Ret (mIn true (Dat.d x) (tupD row) st2) _
        rw [ret_notin (α := Str) (Nat.zero_le _)]
        walk_at "wp"
        refine fun _ => ⟨line_big (by decide), ?_⟩
        show Ret (mAdd (.tup (row.map Dat.d)) (.tup [Dat.d x]) st2) _
        rw [ret_add_tup, List.length_map, List.length_singleton]
        refine ⟨line_big (by omega), rfl, ?_⟩
        show D.tup _ = D.tup _
        rw [List.map_append]
        rfl
      · walk_at "wp"
        have hsum : (((ordS ys i).take j).flatMap fun row => (ys.filter fun b => !decide (b ∈ row)).map fun b => row ++ [b]).length ≤ j * ys.length := by
          rw [List.length_flatMap]
          have key : ∀ L : List (List Str), (L.map fun row => ((ys.filter fun b => !decide (b ∈ row)).map fun b => row ++ [b]).length).sum ≤ L.length * ys.length := by
            intro L
            induction L with
            | nil => simp
            | cons r L ih2 =>
              rw [List.map_cons, List.sum_cons, List.length_cons, Nat.add_mul, Nat.one_mul]
              have := List.length_filter_le (fun b => !decide (b ∈ r)) ys
              rw [List.length_map]
              omega
          refine Nat.le_trans (key _) ?_
          rw [List.length_take, Nat.min_eq_left (by omega)]
          exact Nat.le_refl _
        have h4 : j * ys.length ≤ 256 * 4 := Nat.mul_le_mul (by omega) hl
        refine ⟨line_big (by omega), some (Dat.d row), ?_⟩
        rw [List.take_succ, hrow]
        simp only [Option.toList_some, List.flatMap_append, List.map_append, List.flatMap_cons, List.flatMap_nil, List.append_nil, List.map_map]
        rfl
    · rintro en st2 ⟨rfl, c, rfl⟩
      rw [Nat.zero_add, List.length_map, List.take_length]
      walk_at "wp"
      exact ⟨_, _, _, rfl⟩
  · rintro en st ⟨rfl, a, b, c, rfl⟩
    rw [Nat.zero_add, List.length_map, List.length_range]
    walk_at "wp"
    exact q
/-- all shelves of the same books -/
def every (s : List Str) : List (List Str) := ordS (sortS s) (sortS s).length
theorem sortS_p (s : List Str) : (sortS s).Perm s := List.mergeSort_perm s strLe
theorem every_iff {s t : List Str} (hs : s.Nodup) : t ∈ every s ↔ t.Perm s := ordS_perm hs (sortS_p s)
theorem shelves_wp {s : List Str} (hl : s.length ≤ 4) (q : P (.lst ((every s).map Dat.d)) S) : Ret (f_x_law_shelves [tupD s] S) P := by
  unfold f_x_law_shelves s_x_law_shelves
  walk_at "wp"
  rw [ret_sorted (line_big (by omega))]
  exact orders_wp (by rw [(sortS_p s).length_eq]; exact hl) q
theorem every_len {s : List Str} (hl : s.length ≤ 4) : (every s).length ≤ 256 := by
  have h := ordS_len (sortS s) (sortS s).length
  have e := (sortS_p s).length_eq
  unfold every
  have h1 : (sortS s).length ^ (sortS s).length ≤ 4 ^ (sortS s).length := Nat.pow_le_pow_left (by omega) _
  have h2 : 4 ^ (sortS s).length ≤ 4 ^ 4 := Nat.pow_le_pow_right (by decide) (by omega)
  have h3 : (4 : Nat) ^ 4 = 256 := by decide
  omega
theorem ends_wp {s w : List Str} (hs : s.Nodup) (hl : s.length ≤ 4) (hw : w.length ≤ 100) (q : P (.lst (((every s).map fun t => led t w).map Dat.d)) S) : Ret (f_x_law_ends [.lst ((every s).map Dat.d), tupD w] S) P := by
  have he := every_len hl
  unfold f_x_law_ends s_x_law_ends
  walk_at "wp"
  refine comp_pure (enc := tupD) (p := fun _ => true) (k := fun t => tupD (led t w)) (fun t ht => ?_) (line_big (by omega)) ?_
  · have htl := ((every_iff hs).mp ht).length_eq
    walk_at "wp"
    exact fun _ => ledK_wp (by omega) ⟨rfl, rfl⟩
  · rw [List.filter_eq_self.mpr (fun _ _ => rfl)]
    rw [List.map_map] at q
    exact q
end
end K73
/-! k73: what the program does; the law. -/
namespace K73
open PySem PySem.Spec PyProof.Rows L2 VL Sh
section
variable {S : Sto} {n : Nat} {k : Int} {Q : D → Sto → Prop} {P : D → Sto → Prop}
theorem lastR_le (w : List Str) : (lastR w).length ≤ w.length := pigeon _ _ (lastR_nodup w) fun x hx => (lastR_mem w x).mp hx
theorem ret_rev {ds : List D} : Ret (mRev (.tup ds) S) P = P (.tup ds.reverse) S := by
  rw [show mRev (.tup ds) S = .ok (.tup ds.reverse) S from rfl, ret_ok]
theorem last_wp {w : List Str} (hl : w.length ≤ 1000) (q : P (tupD (lastR w)) S) : Ret (f_last_of [tupD w] S) P := by
  unfold f_last_of s_last_of
  walk_at "wp"
  refine ⟨Nat.zero_le _, ?_⟩
  rw [ret_rev]
  walk_at "wp"
  rw [← List.map_reverse]
  refine for_wp (fun i en st => st = S ∧ ∃ a, en = [some (tupD w), some (tupD (lastR (w.reverse.take i).reverse)), a]) _ 0 _ _ ⟨rfl, none, rfl⟩ ?_ ?_
  · rintro i d en st hd ⟨rfl, a, rfl⟩
    rw [List.getElem?_map, Option.map_eq_some_iff] at hd
    obtain ⟨b, hbi, rfl⟩ := hd
    have hi := (List.getElem?_eq_some_iff.mp hbi).1
    rw [List.length_reverse] at hi
    rw [Nat.zero_add]
    have e1 : (w.reverse.take (i + 1)).reverse = b :: (w.reverse.take i).reverse := by
      rw [List.take_succ, hbi, List.reverse_append]
      rfl
    have hle := lastR_le (w.reverse.take i).reverse
    rw [List.length_reverse, List.length_take, List.length_reverse] at hle
    walk_at "wp"
    show Ret (mIn true (Dat.d b) (tupD (lastR (w.reverse.take i).reverse)) st) _
    rw [ret_notin (α := Str) (Nat.zero_le _)]
    walk_at "wp"
    rw [e1, lastR_cons]
    by_cases hb : b ∈ lastR (w.reverse.take i).reverse
    · rw [if_pos hb, if_neg (by simp [hb])]
      exact ⟨_, rfl⟩
    · rw [if_neg hb, if_pos (by simp [hb])]
      refine ⟨line_big (by omega), some (Dat.d b), ?_⟩
      show _ = [some (tupD w), some (D.tup ((lastR (w.reverse.take i).reverse ++ [b]).map Dat.d)), some (Dat.d b)]
      rw [List.map_append]
      rfl
  · rintro en st ⟨rfl, a, rfl⟩
    rw [Nat.zero_add, List.length_map, List.take_length, List.reverse_reverse]
    walk_at "wp"
    exact q
/-- the deed -/
def deedL (s w : List Str) : List Str := (lastR w).take (s.length - 1)
theorem deed_wp {s w : List Str} (h1 : 1 ≤ s.length) (hl : w.length ≤ 1000) (q : P (tupD (deedL s w)) S) : Ret (f_deed_by [tupD s, tupD w] S) P := by
  unfold f_deed_by s_deed_by
  walk_at "wp"
  refine last_wp hl ?_
  walk_at "wp"
  rw [show (s.length : Int) - 1 = ((s.length - 1 : Nat) : Int) by omega, cut_takeA, ← List.map_take]
  exact q
/-- askings without the one at i -/
def outL (w : List Str) (i : Nat) : List Str := w.take i ++ w.drop (i + 1)
theorem outL_le (w : List Str) (i : Nat) : (outL w i).length ≤ w.length := by
  unfold outL
  rw [List.length_append, List.length_take, List.length_drop]
  omega
theorem outL_sub {w : List Str} {i : Nat} {x : Str} (h : x ∈ outL w i) : x ∈ w := by
  unfold outL at h
  rcases List.mem_append.mp h with z | z
  · exact List.mem_of_mem_take z
  · exact List.mem_of_mem_drop z
theorem out_cut {w : List Str} {i : Nat} (hl : w.length ≤ 1000) (q : P (tupD (outL w i)) S) : Ret (mAdd (.tup (VL.cutD (w.map Dat.d) none (some (i : Int)))) (.tup (VL.cutD (w.map Dat.d) (some ((i : Int) + 1)) none)) S) P := by
  rw [cut_takeA, show (i : Int) + 1 = ((i + 1 : Nat) : Int) by omega, cut_dropA, ← List.map_take, ← List.map_drop, ret_add_tup, List.length_map, List.length_map]
  refine ⟨line_big (by rw [List.length_take, List.length_drop]; omega), ?_⟩
  rw [← List.map_append]
  exact q
theorem leftout_wp {w : List Str} {i : Nat} (hl : w.length ≤ 1000) (q : P (tupD (outL w i)) S) : Ret (f_left_out_at [tupD w, .int i] S) P := by
  unfold f_left_out_at s_left_out_at
  walk_at "wp"
  have h := out_cut (S := S) (P := P) (i := i) hl q
  rw [ret_add_tup] at h
  exact h
theorem canleave_wp {s w : List Str} {i : Nat} (h1 : 1 ≤ s.length) (hl : w.length ≤ 1000) (q : P (.bl (decide (deedL s (outL w i) = deedL s w))) S) : Ret (f_can_leave [tupD s, tupD w, .int i] S) P := by
  have ho := outL_le w i
  unfold f_can_leave s_can_leave
  walk_at "wp"
  refine leftout_wp hl ?_
  refine deed_wp h1 (by omega) ?_
  refine deed_wp h1 hl ?_
  show Ret (mEq (Dat.d (deedL s (outL w i))) (Dat.d (deedL s w)) S) P
  rw [ret_eq (α := List Str) (by decide)]
  exact q
structure Ask (s w : List Str) : Prop where
  sh : Shelf s
  l1 : 1 ≤ s.length
  l4 : s.length ≤ 4
  wl : w.length ≤ 9
  ws : ∀ b ∈ w, b ∈ s
def idxs (w : List Str) (p : Nat → Bool) : List Int := ((List.range w.length).filter p).map fun i : Nat => (i : Int)
theorem idxs_len (w : List Str) (p : Nat → Bool) : (idxs w p).length ≤ w.length := by
  unfold idxs
  rw [List.length_map]
  have := List.length_filter_le p (List.range w.length)
  rw [List.length_range] at this
  exact this
theorem idxs_d (w : List Str) (p : Nat → Bool) : ((List.range w.length).filter p).map (fun i : Nat => D.int (i : Nat)) = (idxs w p).map D.int := by
  unfold idxs
  rw [List.map_map]
  rfl
theorem idxs_shw {w : List Str} {p : Nat → Bool} (hl : w.length ≤ 30) : ∀ x ∈ idxs w p, Shw (Dat.py x) 8 := fun x hx => by
  unfold idxs at hx
  obtain ⟨i, hi, rfl⟩ := List.mem_map.mp hx
  have := List.mem_range.mp (List.mem_filter.mp hi).1
  exact small_int i (by omega)
theorem idxs_mem {w : List Str} {p : Nat → Bool} {i : Nat} : ((i : Int) ∈ idxs w p) ↔ (i < w.length ∧ p i = true) := by
  unfold idxs
  constructor
  · intro h
    obtain ⟨j, hj, e⟩ := List.mem_map.mp h
    have : j = i := by omega
    subst this
    obtain ⟨h1, h2⟩ := List.mem_filter.mp hj
    exact ⟨List.mem_range.mp h1, h2⟩
  · intro ⟨h1, h2⟩
    exact List.mem_map.mpr ⟨i, List.mem_filter.mpr ⟨List.mem_range.mpr h1, h2⟩, rfl⟩
def dueP (s w : List Str) (i : Nat) : Bool := decide (deedL s (outL w i) = deedL s w)
theorem needless_wp {s w : List Str} (h : Ask s w) (q : P (tupD (idxs w (dueP s w))) S) : Ret (f_needless_at [tupD s, tupD w] S) P := by
  have := h.wl
  have := h.l4
  unfold f_needless_at s_needless_at
  walk_at "wp"
  refine checkasked_wp h.sh h.l1 (by omega) (by omega) h.ws ?_
  rw [ret_range (by omega)]
  refine comp_pure (enc := fun i : Nat => D.int (i : Nat)) (p := dueP s w) (k := fun i : Nat => D.int (i : Nat)) (fun i hi => ?_) (line_big (by rw [List.length_range]; omega)) ?_
  · walk_at "wp"
    refine canleave_wp h.l1 (by omega) ?_
    walk_at "wp"
    exact ⟨rfl, fun _ => trivial⟩
  · rw [idxs_d]
    walk_at "wp"
    exact ⟨line_big (by have := idxs_len w (dueP s w); omega), q⟩
def againP (w : List Str) (i : Nat) : Bool := decide (w.getD i (Str.ofString "") ∈ w.drop (i + 1))
theorem encE_ok (w : List Str) : True := trivial
theorem again_wp {w : List Str} (hl : w.length ≤ 100) (q : P (.lst ((idxs w (againP w)).map D.int)) S) : Ret (f_again_in [tupD w] S) P := by
  unfold f_again_in s_again_in
  walk_at "wp"
  rw [ret_enumt (Str.ofString "")]
  refine comp_pure (enc := fun i : Nat => D.wtup [.int (i : Nat), Dat.d (w.getD i (Str.ofString ""))]) (p := againP w) (k := fun i : Nat => D.int (i : Nat)) (fun i hi => ?_) (line_big (by rw [List.length_range]; omega)) ?_
  · walk_at "wp"
    rw [show (i : Int) + 1 = ((i + 1 : Nat) : Int) by omega, cut_dropA, ← List.map_drop]
    show Ret (mIn false (Dat.d (w.getD i (Str.ofString ""))) (tupD (w.drop (i + 1))) S) _
    rw [ret_in (α := Str) (Nat.zero_le _)]
    walk_at "wp"
    exact ⟨rfl, fun _ => trivial⟩
  · rw [idxs_d]
    exact q
theorem askedagain_wp {s w : List Str} (h : Ask s w) (q : P (tupD (idxs w (againP w))) S) : Ret (f_asked_again [tupD s, tupD w] S) P := by
  have := h.wl
  have := h.l4
  unfold f_asked_again s_asked_again
  walk_at "wp"
  refine checkasked_wp h.sh h.l1 (by omega) (by omega) h.ws ?_
  refine again_wp (by omega) ?_
  walk_at "wp"
  exact ⟨line_big (by have := idxs_len w (againP w); omega), q⟩
theorem thin_eq : ∀ w : List Str, ((List.range w.length).filter fun i => !againP w i).map (fun i => w.getD i (Str.ofString "")) = thinR w
  | [] => rfl
  | b :: w => by
    have ih := thin_eq w
    rw [List.length_cons, List.range_succ_eq_map]
    have e0 : againP (b :: w) 0 = decide (b ∈ w) := rfl
    have e1 : ∀ i, againP (b :: w) (i + 1) = againP w i := fun i => rfl
    have e2 : ((List.range w.length).map Nat.succ).filter (fun i => !againP (b :: w) i) = ((List.range w.length).filter fun i => !againP w i).map Nat.succ := by
      rw [List.filter_map]
      rfl
    unfold thinR
    by_cases h : b ∈ w
    · rw [if_pos h, List.filter_cons_of_neg (by rw [e0]; simp [h]), e2, List.map_map, ← ih]
      rfl
    · rw [if_neg h, List.filter_cons_of_pos (by rw [e0]; simp [h]), e2, List.map_cons, List.map_map, ← ih]
      rfl
theorem thinR_sub : ∀ (w : List Str) (x : Str), x ∈ thinR w → x ∈ w
  | [], x, h => by simp [thinR] at h
  | b :: w, x, h => by
    unfold thinR at h
    split at h
    · exact List.mem_cons_of_mem _ (thinR_sub w x h)
    · rcases List.mem_cons.mp h with e | e
      · rw [e]; exact List.mem_cons_self
      · exact List.mem_cons_of_mem _ (thinR_sub w x e)
theorem thinR_len : ∀ w : List Str, (thinR w).length ≤ w.length
  | [] => Nat.le_refl _
  | b :: w => by
    have ih := thinR_len w
    unfold thinR
    split
    · rw [List.length_cons]; omega
    · rw [List.length_cons, List.length_cons]; omega
theorem not_again {w : List Str} {i : Nat} (hi : i < w.length) : (!decide ((i : Int) ∈ idxs w (againP w))) = !againP w i := by
  congr 1
  by_cases h : againP w i = true
  · rw [h, decide_eq_true (idxs_mem.mpr ⟨hi, h⟩)]
  · rw [Bool.not_eq_true] at h
    rw [h, decide_eq_false fun z => by
      have := (idxs_mem.mp z).2
      rw [h] at this
      cases this]
theorem thin_map (w : List Str) : ((List.range w.length).filter fun i => !againP w i).map (fun i => Dat.d (w.getD i (Str.ofString ""))) = (thinR w).map Dat.d := by
  rw [← thin_eq w, List.map_map]
  rfl
theorem thinned_wp {s w : List Str} (h : Ask s w) (q : P (tupD (thinR w)) S) : Ret (f_thinned [tupD s, tupD w] S) P := by
  have := h.wl
  have := h.l4
  unfold f_thinned s_thinned
  walk_at "wp"
  refine checkasked_wp h.sh h.l1 (by omega) (by omega) h.ws ?_
  refine again_wp (by omega) ?_
  rw [ret_enumt (Str.ofString "")]
  refine comp_pure (enc := fun i : Nat => D.wtup [.int (i : Nat), Dat.d (w.getD i (Str.ofString ""))]) (p := fun i => !againP w i) (k := fun i : Nat => Dat.d (w.getD i (Str.ofString ""))) (fun i hi => ?_) (line_big (by rw [List.length_range]; omega)) ?_
  · have hi := List.mem_range.mp hi
    walk_at "wp"
    show Ret (mIn true (Dat.d (i : Int)) (.lst ((idxs w (againP w)).map Dat.d)) S) _
    rw [ret_notin_l (α := Int) (Nat.zero_le _), not_again hi]
    walk_at "wp"
    exact fun _ => trivial
  · rw [thin_map]
    walk_at "wp"
    exact ⟨line_big (by have := thinR_len w; omega), q⟩
theorem ret_callP {pm : List Nat} {F : List D → M D} {fk : DEnv → M (List D)} {en : DEnv} : Ret (eCallP pm F fk en S) P = Ret (fk en S) fun ks S => Ret (F (gP pm [] ks) S) P := ret_bind
theorem gP10 {a b : D} : gP [1, 0] [] [a, b] = [b, a] := rfl
theorem ret_two {d : D} : Ret (mRepL (.lst [d]) (.int 2) S) P = P (.lst [d, d]) S := by
  rw [show mRepL (.lst [d]) (.int 2) S = .ok (.lst [d, d]) S from rfl, ret_ok]
theorem right_turn {s w : List Str} (h : Ask s w) : decide ((every s).map (fun t => led t (thinR w)) = (every s).map fun t => led t w) = true := by
  refine decide_eq_true (List.map_congr_left fun t _ => ?_)
  exact led_same (lastR_thin w)
theorem due_eq {s w : List Str} (h : Ask s w) (i : Nat) : decide ((every s).map (fun t => led t (outL w i)) = (every s).map fun t => led t w) = dueP s w i := by
  have hi := deeds_iff (s := s) (w := outL w i) (v := w) h.sh.1 (fun b hb => h.ws b (outL_sub hb)) h.ws
  unfold dueP
  by_cases hd : deedL s (outL w i) = deedL s w
  · rw [decide_eq_true hd, decide_eq_true]
    refine List.map_congr_left fun t ht => ?_
    exact hi.mpr hd t ((every_iff h.sh.1).mp ht)
  · rw [decide_eq_false hd, decide_eq_false]
    intro e
    refine hd (hi.mp fun t ht => ?_)
    exact List.map_inj_left.mp e t ((every_iff h.sh.1).mpr ht)
theorem again_due {s w : List Str} {i : Nat} (hi : i < w.length) (h : againP w i = true) : dueP s w i = true := by
  unfold againP at h
  have h := of_decide_eq_true h
  rw [List.getD_eq_getElem?_getD, List.getElem?_eq_getElem hi] at h
  have e : w = w.take i ++ w[i] :: w.drop (i + 1) := by
    rw [← List.drop_eq_getElem_cons hi, List.take_append_drop]
  have e2 : lastR w = lastR (outL w i) := by
    unfold outL
    have := lastR_skip h (w.take i)
    rw [← this]
    exact congrArg lastR e
  unfold dueP deedL
  rw [e2]
  exact decide_eq_true rfl
theorem right_wp (n : Nat) (S : Sto) (k : Int) (h : WellAt S n k) (hk : k + 1000000 < 2 ^ 100) : Ret (f_x_law_right [.cel n] S) fun d S' => d = .bl true ∧ Up n S S' ∧ WellAt S' n (k + 1000000) := by
  unfold f_x_law_right s_x_law_right
  walk_at "wp"
  rw [show (D.int 15) = D.int ((15 : Nat) : Int) from rfl, ret_range (by omega)]
  refine for_wp (fun i en st => Up n S st ∧ WellAt st n (k + 1000 * i) ∧ ∃ a b c d e f g x y : Option D, en = [some (.cel n), a, b, c, d, e, f, g, x, y, none]) _ 0 _ _ ⟨Up.refl n S, by simpa using h, none, none, none, none, none, none, none, none, none, rfl⟩ ?_ ?_
  · rintro i d0 en st hd0 ⟨hu, hw, a, b, c, d, e, f, g, x, y, rfl⟩
    obtain ⟨hi, rfl⟩ := range_get hd0
    rw [Nat.zero_add] at hw ⊢
    walk_at "wp"
    refine shelf_up (most := 4) hw (by omega) (by omega) (by omega) fun s S1 hs hl1 hl4 hu1 hw1 => ?_
    refine asks_up (most := 9) hw1 (by omega) (by omega) (by intro z; rw [z] at hl1; simp at hl1) (by omega) fun w S2 hwl hws hu2 hw2 => ?_
    have ask : Ask s w := ⟨hs, hl1, hl4, hwl, hws⟩
    have hel := every_len (s := s) hl4
    refine shelves_wp hl4 ?_
    refine ⟨line_big (by decide), ?_⟩
    walk_at "wp"
    refine ends_wp hs.1 hl4 (by omega) ?_
    refine ⟨Nat.zero_le _, ?_⟩
    rw [ret_range (by omega)]
    refine for_wp (fun j en st2 => (∃ e, en = [some (.cel n), some (.int i), some (tupD s), some (.lst (((every s).map fun t => led t w).map Dat.d)), some (.cel S2.length), e, f, g, some (tupD w), some (.lst ((every s).map Dat.d)), none]) ∧ st2 = S2 ++ [some (((List.range j).filter (dueP s w)).map fun j : Nat => D.int (j : Nat))]) _ 0 _ _ ⟨⟨_, rfl⟩, rfl⟩ ?_ ?_
    · rintro j d1 en st2 hd1 ⟨⟨e1, rfl⟩, rfl⟩
      obtain ⟨hj, rfl⟩ := range_get hd1
      rw [Nat.zero_add]
      have hol := outL_le w j
      walk_at "wp"
      rw [cut_takeA, show (j : Int) + 1 = ((j + 1 : Nat) : Int) by omega, cut_dropA, ← List.map_take, ← List.map_drop, ← List.map_append]
      refine ⟨line_big (by rw [List.length_map, List.length_map, List.length_take, List.length_drop]; omega), ?_⟩
      show Ret (f_x_law_ends [.lst ((every s).map Dat.d), tupD (outL w j)] _) _
      refine ends_wp hs.1 hl4 (by omega) ?_
      rw [ret_eql (α := List Str) (by decide)]
      walk_at "wp"
      have hp : (every s).map (fun t => led t (outL w j)) = (every s).map (fun t => led t w) ↔ dueP s w j = true := by rw [← due_eq ask j, decide_eq_true_eq]
      have step : (List.range (j + 1)).filter (dueP s w) = (List.range j).filter (dueP s w) ++ if dueP s w j = true then [j] else [] := by
        rw [List.range_succ, List.filter_append]
        congr 1
        by_cases hd : dueP s w j = true
        · rw [if_pos hd, List.filter_cons_of_pos hd]; rfl
        · rw [if_neg hd, List.filter_cons_of_neg hd]; rfl
      by_cases hd : dueP s w j = true
      · rw [if_pos (hp.mpr hd), live_cel cel_back, ret_append cel_back]
        have hfl := List.length_filter_le (dueP s w) (List.range j)
        rw [List.length_range] at hfl
        refine ⟨by rw [List.length_map]; unfold LINE; omega, ⟨_, rfl⟩, ?_⟩
        rw [cel_put, step, if_pos hd, List.map_append]
        rfl
      · rw [if_neg fun z => hd (hp.mp z)]
        refine ⟨⟨_, rfl⟩, ?_⟩
        rw [step, if_neg hd, List.append_nil]
    · rintro en st2 ⟨⟨e1, rfl⟩, rfl⟩
      rw [Nat.zero_add, List.length_map, List.length_range]
      walk_at "wp"
      rw [cel_back]
      simp only [Option.join_some]
      rw [cel_put, idxs_d]
      have hu3 : Up n S (S2 ++ [none]) := hu.trans ((hu1.trans hu2).trans ((same_app S2 [none]).up n))
      have hw3 : WellAt (S2 ++ [none]) n (k + 1000 * i + 400) := (hw2.same (same_app S2 [none])).mono (by omega)
      generalize S2 ++ [none] = S3 at hu3 hw3
      have hi1 := idxs_len w (dueP s w)
      have hi2 := idxs_len w (againP w)
      have ht := thinR_len w
      walk_at "wp"
      refine needless_wp ask ?_
      rw [ret_callP]
      walk_at "wp"
      rw [gP10]
      refine ⟨rfl, ?_⟩
      refine needless_wp ask ?_
      refine ⟨line_big (by decide), ?_⟩
      rw [repr_two (α := Int) (idxs_shw (by omega)) (by omega) (by decide)]
      refine ⟨line_big (by omega), line_big (by decide), ?_⟩
      show Ret (mRepL (D.lst [tupD (idxs w (dueP s w))]) (D.int 2) S3) _
      rw [ret_two, repr_two (α := Int) (idxs_shw (by omega)) (by omega) (by decide), ret_ne_same, ret_mbool, if_neg Bool.false_ne_true, ret_enumt (Str.ofString "")]
      refine comp_pure (enc := fun i : Nat => D.wtup [.int (i : Nat), Dat.d (w.getD i (Str.ofString ""))]) (p := againP w) (k := fun i : Nat => D.int (i : Nat)) (fun j hj => ?_) (line_big (by rw [List.length_range]; omega)) ?_
      · walk_at "wp"
        rw [show (j : Int) + 1 = ((j + 1 : Nat) : Int) by omega, cut_dropA, ← List.map_drop]
        show Ret (mIn false (Dat.d (w.getD j (Str.ofString ""))) (tupD (w.drop (j + 1))) S3) _
        rw [ret_in (α := Str) (Nat.zero_le _)]
        walk_at "wp"
        exact ⟨rfl, fun _ => trivial⟩
      · rw [idxs_d]
        refine ⟨line_big (by rw [List.length_map]; omega), ?_⟩
        refine askedagain_wp ask ?_
        rw [ret_callP]
        walk_at "wp"
        rw [gP10]
        refine ⟨rfl, ?_⟩
        refine askedagain_wp ask ?_
        refine ⟨line_big (by decide), ?_⟩
        rw [repr_two (α := Int) (idxs_shw (by omega)) (by omega) (by decide)]
        refine ⟨line_big (by decide), ?_⟩
        show Ret (mRepr [D.lst [tupD (idxs w (againP w)), tupD (idxs w (againP w))]] S3) _
        rw [repr_two (α := Int) (idxs_shw (by omega)) (by omega) (by decide), ret_ne_same, ret_mbool, if_neg Bool.false_ne_true, ret_enumt (Str.ofString "")]
        refine comp_pure (enc := fun i : Nat => D.wtup [.int (i : Nat), Dat.d (w.getD i (Str.ofString ""))]) (p := fun i => !againP w i) (k := fun i : Nat => Dat.d (w.getD i (Str.ofString ""))) (fun j hj => ?_) (line_big (by rw [List.length_range]; omega)) ?_
        · have hj := List.mem_range.mp hj
          walk_at "wp"
          show Ret (mIn true (Dat.d (j : Int)) (tupD (idxs w (againP w))) S3) _
          rw [ret_notin (α := Int) (Nat.zero_le _), not_again hj]
          walk_at "wp"
          exact fun _ => trivial
        · rw [thin_map]
          refine ⟨line_big (by rw [List.length_map]; omega), ?_⟩
          refine thinned_wp ask ?_
          rw [ret_callP]
          walk_at "wp"
          rw [gP10]
          refine ⟨rfl, ?_⟩
          refine thinned_wp ask ?_
          refine ⟨line_big (by decide), ?_⟩
          have hsh : ∀ x ∈ thinR w, Shw (Dat.py x) 8 := fun x hx => nm_shw (hs.2 x (hws x (thinR_sub w x hx)))
          rw [repr_two (α := Str) hsh (by omega) (by decide)]
          refine ⟨line_big (by decide), ?_⟩
          show Ret (mRepr [D.lst [tupD (thinR w), tupD (thinR w)]] S3) _
          rw [repr_two (α := Str) hsh (by omega) (by decide), ret_ne_same, ret_mbool, if_neg Bool.false_ne_true]
          show Ret (f_x_law_ends [D.lst ((every s).map Dat.d), tupD (thinR w)] S3) _
          refine ends_wp hs.1 hl4 (by omega) ?_
          rw [ret_nel (α := List Str) (by decide), right_turn ask]
          rw [ret_mbool, if_neg (by decide)]
          refine comp_pure (enc := D.int) (p := fun _ => false) (k := D.int) (fun x hx => ?_) (line_big (by omega)) ?_
          · obtain ⟨j, hj, rfl⟩ : ∃ j : Nat, (j < w.length ∧ againP w j = true) ∧ x = (j : Int) := by
              have hx2 := hx
              unfold idxs at hx2
              obtain ⟨j, _, rfl⟩ := List.mem_map.mp hx2
              exact ⟨j, idxs_mem.mp hx, rfl⟩
            have hin : ((j : Nat) : Int) ∈ idxs w (dueP s w) := idxs_mem.mpr ⟨hj.1, again_due hj.1 hj.2⟩
            walk_at "wp"
            show Ret (mIn true (Dat.d (j : Int)) (.lst ((idxs w (dueP s w)).map Dat.d)) S3) _
            rw [ret_notin_l (α := Int) (Nat.zero_le _), decide_eq_true hin, ret_mbool]
            exact ⟨rfl, rfl, fun z => nomatch z⟩
          · have e4 : ((idxs w (againP w)).filter fun _ => false).map D.int = ([] : List Str).map D.str := by
              rw [List.filter_eq_nil_iff.mpr (fun _ _ => Bool.false_ne_true)]
              rfl
            rw [e4]
            refine ⟨Nat.zero_le _, ?_⟩
            rw [show mNe (.lst (([] : List Str).map D.str)) (.lst []) S3 = .ok (.bl false) S3 from rfl, ret_ok, ret_mbool, if_neg Bool.false_ne_true]
            exact ⟨hu3, hw3.mono (by omega), _, _, _, _, _, _, _, _, _, rfl⟩
  · rintro en st ⟨hu, hw, a, b, c, d, e, f, g, x, y, rfl⟩
    rw [Nat.zero_add, List.length_map, List.length_range] at hw
    exact ⟨hu, hw.mono (by omega)⟩
/-! ### the law -/
theorem stir_wp {x0 x1 x2 : Option D} {L : List Int} {b0 : Int} {nx bk ct : DEnv → Sto → Prop} {rt : D → Sto → Prop} (h0 : 0 ≤ b0) (h1 : b0 < 2147480009) (q : ∀ (b : Int) (x4 : Option D), 0 ≤ b → b < 2147480009 → nx [x0, x1, x2, some (.int b), x4] S) :
    W (forL (gN 4) (sAsg (VL.e2 mMod (eCall mInt (aCons (VL.e2 mAdd (VL.e2 mAdd (VL.e2 mMul (eVar 3) (eC (D.int 28001))) (VL.e2 mMod (eCall mInt (aCons (eVar 4) aNil)) (eC (D.int 2147480009)))) (eC (D.int 137))) aNil)) (eC (D.int 2147480009))) (gN 3)) (L.map D.int) [x0, x1, x2, some (.int b0), none] S) nx rt bk ct := by
  refine for_wp (fun i en st => st = S ∧ ∃ (b : Int) (x4 : Option D), en = [x0, x1, x2, some (.int b), x4] ∧ 0 ≤ b ∧ b < 2147480009) _ 0 _ _ ⟨rfl, b0, none, rfl, h0, h1⟩ ?_ ?_
  · rintro i d en st hd ⟨rfl, b, x4, rfl, g0, g1⟩
    rw [List.getElem?_map, Option.map_eq_some_iff] at hd
    obtain ⟨c, hc, rfl⟩ := hd
    walk_at "wp"
    refine ⟨⟨big_of (by omega), bigN (by decide)⟩, by decide, by decide, _, _, rfl, ?_, ?_⟩
    · exact Int.emod_nonneg _ (by decide)
    · exact Int.emod_lt_of_pos _ (by decide)
  · rintro en st ⟨rfl, b, x4, rfl, g0, g1⟩
    exact q b x4 g0 g1
theorem wellK_wp {sc : List D → D} (hsc : sc = D.fro ∨ sc = D.lst) {ns : List Int} {j : Nat} (hj : j < 3) (q : ∀ ws, Wl 0 ws → Q (.cel S.length) (S ++ [some ws])) : Ret (f_x_law_well [sc (ns.map D.int), .int j] S) Q := by
  have hlen : ∀ {P : D → Sto → Prop} {S : Sto}, P (.int (ns.length : Nat)) S → Ret (mLen [sc (ns.map D.int)] S) P := fun {P S} q => by
    rcases hsc with rfl | rfl
    · rw [ret_len_fro, List.length_map]; exact q
    · rw [ret_len_lst, List.length_map]; exact q
  have hix : ∀ {P : D → Sto → Prop} {S : Sto} {i : Nat} (h : i < ns.length), P (.int ns[i]) S → Ret (mIx (sc (ns.map D.int)) (.int (i : Int)) S) P := fun {P S i} h q => by
    have e : atI (ns.map D.int) (i : Int) = some (.int ns[i]) := atI_nat (by rw [List.getElem?_map, List.getElem?_eq_getElem h]; rfl)
    rcases hsc with rfl | rfl
    · rw [ret_ix_fro, e]; exact q
    · rw [ret_ix_lst, e]; exact q
  have hsl : ∀ {P : D → Sto → Prop} {S : Sto}, P (.lst ((ns.take 7).map D.int)) S → Ret (mSl (sc (ns.map D.int)) none (some 7) S) P := fun {P S} q => by
    have e : VL.cutD (ns.map D.int) none (some 7) = (ns.take 7).map D.int := by
      rw [show (some (7 : Int)) = some ((7 : Nat) : Int) from rfl, cut_takeA, List.map_take]
    rcases hsc with rfl | rfl
    · rw [ret_sl_fro, e]; exact q
    · rw [ret_sl_lst, e]; exact q
  have hl7 : (ns.take 7).length ≤ 7 := by rw [List.length_take]; omega
  have b0 : ∀ m : Nat, m ≤ 100 → m ≤ LINE := fun m hm => line_big (by omega)
  have wl : ∀ (o b : Int), 0 ≤ o → 0 ≤ b → b < 2147480009 → Q (D.cel S.length) (S ++ [some [D.int o, D.int b, D.int 0]]) := fun o b g0 g1 g2 => q _ ⟨o, b, 0, rfl, g0, g1, by omega, by omega, by omega⟩
  have app : ∀ spot : Int, (ns.take 7).map D.int ++ [D.int spot] = (ns.take 7 ++ [spot]).map D.int := fun spot => by rw [List.map_append]; rfl
  unfold f_x_law_well s_x_law_well
  walk_at "wp"
  refine hlen ?_
  walk_at "wp"
  by_cases hj2 : j < ns.length
  · rw [if_pos (by omega)]
    refine hix hj2 ?_
    generalize ns[j] = spot
    walk_at "wp"
    refine ⟨⟨bigN (by decide), bigN (by omega)⟩, ?_⟩
    refine hsl ?_
    walk_at "wp"
    refine ⟨b0 _ (by decide), b0 _ (by omega), ?_⟩
    rw [app]
    refine stir_wp (by omega) (by omega) fun b x4 g0 g1 => ?_
    walk_at "wp"
    split
    · exact ⟨b0 _ (by decide), wl _ _ (by omega) g0 g1⟩
    · refine ⟨⟨by decide, by decide⟩, by decide, ?_⟩
      split
      · rename_i hge
        exact ⟨b0 _ (by decide), wl _ _ (by have : (0 : Int) ≤ 10 ^ Int.toNat 15 := by decide
                                            omega) g0 g1⟩
      · exact ⟨b0 _ (by decide), wl _ _ (by omega) g0 g1⟩
  · rw [if_neg (by omega)]
    refine ⟨⟨bigN (by decide), bigN (by omega)⟩, ⟨bigN (by decide), bigN (by omega)⟩, ?_⟩
    generalize (9403 : Int) * (j : Int) + 2503 = spot
    refine hsl ?_
    walk_at "wp"
    refine ⟨b0 _ (by decide), b0 _ (by omega), ?_⟩
    rw [app]
    refine stir_wp (by omega) (by omega) fun b x4 g0 g1 => ?_
    walk_at "wp"
    split
    · exact ⟨b0 _ (by decide), wl _ _ (by omega) g0 g1⟩
    · refine ⟨⟨by decide, by decide⟩, by decide, ?_⟩
      split
      · rename_i hge
        exact ⟨b0 _ (by decide), wl _ _ (by have : (0 : Int) ≤ 10 ^ Int.toNat 15 := by decide
                                            omega) g0 g1⟩
      · exact ⟨b0 _ (by decide), wl _ _ (by omega) g0 g1⟩
theorem law_true (ns : List Int) {sc : List D → D} (hsc : sc = D.fro ∨ sc = D.lst) : ∃ S, f_law [sc (ns.map D.int)] [] = .ok (.bl true) S := by
  have hlen : ∀ {P : D → Sto → Prop} {S : Sto}, P (.int (ns.length : Nat)) S → Ret (mLen [sc (ns.map D.int)] S) P := fun {P S} q => by
    rcases hsc with rfl | rfl
    · rw [ret_len_fro, List.length_map]; exact q
    · rw [ret_len_lst, List.length_map]; exact q
  have main : Ret (f_law [sc (ns.map D.int)] []) fun d _ => d = .bl true := by
    unfold f_law s_law
    walk_at "wp"
    unfold f_x_law_turns s_x_law_turns
    walk_at "wp"
    refine hlen ?_
    obtain ⟨m, hm2, hm3, em⟩ : ∃ m : Nat, 2 ≤ m ∧ m ≤ 3 ∧ ∀ {P : D → Sto → Prop} {S : Sto}, P (.int m) S → Ret (mMin [D.int (ns.length : Nat), D.int 3] S) fun d S => Ret (mMax [D.int 2, d] S) P := by
      by_cases h3 : 3 < ns.length
      · refine ⟨3, by decide, by decide, fun {P S} q => ?_⟩
        rw [show mMin [D.int (ns.length : Nat), D.int 3] S = .ok (.int (if (3 : Int) < (ns.length : Int) then 3 else (ns.length : Int))) S from rfl, ret_ok, if_pos (by omega)]
        rw [show mMax [D.int 2, D.int 3] S = .ok (.int 3) S from rfl, ret_ok]
        exact q
      · by_cases h2 : ns.length = 3
        · refine ⟨3, by decide, by decide, fun {P S} q => ?_⟩
          rw [show mMin [D.int (ns.length : Nat), D.int 3] S = .ok (.int (if (3 : Int) < (ns.length : Int) then 3 else (ns.length : Int))) S from rfl, ret_ok, if_neg (by omega), h2]
          rw [show mMax [D.int 2, D.int ((3 : Nat) : Int)] S = .ok (.int 3) S from rfl, ret_ok]
          exact q
        · refine ⟨2, by decide, by decide, fun {P S} q => ?_⟩
          rw [show mMin [D.int (ns.length : Nat), D.int 3] S = .ok (.int (if (3 : Int) < (ns.length : Int) then 3 else (ns.length : Int))) S from rfl, ret_ok, if_neg (by omega)]
          rw [show mMax [D.int 2, D.int (ns.length : Nat)] S = .ok (.int (if (ns.length : Int) > 2 then (ns.length : Int) else 2)) S from rfl, ret_ok, if_neg (by omega)]
          exact q
    refine em ?_
    have erg : ∀ {S : Sto}, mListRg (.int (m : Int)) S = .ok (.lst ((List.range m).map fun i => D.int (i : Nat))) S := fun {S} => by
      unfold mListRg
      simp only []
      rw [if_pos (by omega)]
      unfold nums
      simp
    rw [erg, ret_ok, ret_iter_lst]
    refine comp_wp (fun i acc st => acc = (List.replicate i true).map D.bl) _ 0 _ _ rfl ?_ ?_
    · rintro i d acc st hd rfl
      obtain ⟨hi, rfl⟩ := range_get hd
      rw [Nat.zero_add]
      walk_at "wp"
      refine wellK_wp hsc (by omega) fun ws hw => ?_
      have hwa : WellAt (st ++ [some ws]) st.length 0 := ⟨ws, cel_back, hw⟩
      refine (right_wp st.length (st ++ [some ws]) 0 hwa (by decide)).mono fun d S' h => ?_
      obtain ⟨rfl, _, _⟩ := h
      refine ⟨by simp only [List.length_map, List.length_replicate]; unfold LINE; omega, ?_⟩
      rw [List.map_replicate, ← List.replicate_succ', List.replicate_succ]
    · rintro acc st rfl
      rw [ret_all]
      have e3 : ∀ m : Nat, (List.replicate m true).all id = true := fun m => by simp
      rw [e3]
  obtain ⟨a, S, e, rfl⟩ := main.ex
  exact ⟨S, e⟩
end
end K73
/-! VLt: a head's facts, tables too; a law's start. -/
namespace VL
open PySem PySem.Spec PyProof.Rows L2 He
abbrev TupF : Type := Str × List Dv
def tupsB (tp : List TupF) (K : PySem.W.Frag) : Bool := tp.all fun t => tupB K t.1 t.2
theorem tups_get {tp : List TupF} {K : PySem.W.Frag} (e : tupsB tp K = true) (i : Nat) {x : Str} {vs : List Dv} (h : tp[i]? = some (x, vs) := by rfl) (H : Hp) : SqT K H (ga K x) (vs.map (Dv.v K)) :=
  tupB_ok (List.all_eq_true.mp e _ (List.mem_of_getElem? h)) H
theorem funD_inj {K : PySem.W.Frag} {x qual : Str} {params : Arguments} {body : List Stmt} {scope : Scope} {dvs : List V} {kws : List (Str × V)} {f : Addr} {fd fd' : FuncData} (F : FunD K x qual params body scope dvs kws f fd) (F' : FunD K x qual params body scope dvs kws f fd') : fd' = fd := by
  obtain ⟨oc, od, dV, kV, doc, pm, an, cdv, ct, osl, e, lk, _⟩ := F.ex
  obtain ⟨oc', od', dV', kV', doc', pm', an', cdv', ct', osl', e', lk', _⟩ := F'.ex
  rw [lk] at lk'
  injection lk' with h
  injection h with h1 h2 h3 h4
  injection h3 with h5
  exact h5.symm
theorem Has.fn {T : List NdefX.NTab} {P : Program} {w : World} {K : PySem.W.Frag} {mg : Str → Option Value} {base : Heap} {k : Nat} {d : DefD} {ps : List Str} {F : List D → M D} {f : Addr} {fd : FuncData} (G : Has T P w K mg base k d ps F) (hm : mg d.name = some (.ref f)) (FD : FunD K d.name d.qual d.params d.body d.scope [] [] f fd) :
    FnG P w K mg base T k f fd ps F := by
  obtain ⟨f', fd', hm', FD', FO⟩ := G.ex
  rw [hm] at hm'
  cases hm'
  rw [funD_inj FD FD'] at FO
  exact FO
/-- the tables of the makers of lambdas -/
abbrev tabsOf (tf : List Defn) (K : PySem.W.Frag) : List (Addr × Str) := tf.map fun p => ((cT K p).2, lamQ p.1)
/-- the law's def at the script -/
theorem law_startT {tf : List Defn} {K : PySem.W.Frag} {mg : Str → Option Value} {H : Hp} {a : Addr} {ns : List Int} {F : List D → M D} (hT : ∀ p ∈ tf.map (cT K), H p.2 = some (.tbl #[])) (hS : SqL K H a (ns.map V.int)) (h : ∀ sc : List D → D, (sc = D.fro ∨ sc = D.lst) → ∃ S, F [sc (ns.map D.int)] [] = .ok (.bl true) S) :
    rL K mg (tabT (tabsOf tf K)) (mArgs 1 F) [.ref a] H (fun v _ => v = .bl true) := by
  have go : ∀ sc : List D → D, (sc = D.fro ∨ sc = D.lst) → Rep K mg ⟨[], [], [], H⟩ (sc (ns.map D.int)) (.ref a) → rL K mg (tabT (tabsOf tf K)) (mArgs 1 F) [.ref a] H (fun v _ => v = .bl true) := fun sc hsc r => by
    obtain ⟨S, e⟩ := h sc hsc
    refine ⟨⟨[], [], [], H⟩, [sc (ns.map D.int)], rfl, ⟨rfl, ?_, ?_, ?_, ?_⟩, ?_, ?_⟩
    · intro i x c h1; simp at h1
    · intro i j x c d h1; simp at h1
    · intro x hx; exact absurd hx (by simp)
    · intro p hp
      obtain ⟨q, hq, rfl⟩ := List.mem_map.mp hp
      obtain ⟨p0, hp0, rfl⟩ := List.mem_map.mp hq
      exact NdefX.TabN.nil (hT _ (List.mem_map.mpr ⟨p0, hp0, rfl⟩))
    · simp only [Reps]
      exact ⟨.ref a, [], rfl, r, rfl⟩
    · have e2 : mArgs 1 F [sc (ns.map D.int)] [] = .ok (.bl true) S := by
        unfold mArgs
        exact (if_pos rfl).trans e
      show Fin1 K mg _ _ (mArgs 1 F [sc (ns.map D.int)] []) _
      rw [e2]
      intro A' _ _ _ u hu
      simpa only [Rep] using hu
  rcases hS with (h1 | ⟨o, h1⟩) | h1
  · refine go D.lst (.inr rfl) ?_
    simp only [Rep]
    refine ⟨a, ns.map V.int, rfl, h1, ?_, by simp, reps_ints ns⟩
    rintro ⟨i, c, h2, _⟩
    simp at h2
  · refine go D.fro (.inl rfl) ?_
    simp only [Rep]
    exact ⟨a, ns.map V.int, rfl, .inl ⟨o, h1⟩, reps_ints ns⟩
  · refine go D.fro (.inl rfl) ?_
    simp only [Rep]
    exact ⟨a, ns.map V.int, rfl, .inr h1, reps_ints ns⟩
/-! ### the end: the law's def called from outside, no repr under way -/
open PySem.W in
theorem law_endG {P : Program} {w : World} {K : Frag} {mg mb : Str → Option Value} {k : Nat} {fa a : Addr} {cs : List (Addr × Addr)} {fd : FuncData} {F : List D → M D} {T : List NdefX.NTab} {x : Str} {s : Shared} {vs : List Value} {ns : List Int}
    (KX : K.In s.heap) (hG : s.heap.Ns mainGlobals mg) (hB : s.heap.Ns builtinsNs mb) (hBB : ∀ x : Str, x ≠ "__name__" → mb x = bootBuiltins x) (hNL : s.heap.NoLimit) (hgen : s.gens = #[])
    (hT : ∀ p ∈ cs, s.heap.get? p.2 = some { cls := .none, data := .fields #[] }) (nT : ∀ p ∈ cs, K.lookup p.2 = none) (hC : ∀ p ∈ cs, CodeHd s.heap p.1 p.2)
    (hbm : ∃ (bm : Addr) (ob : Obj), mg "__builtins__" = some (.ref bm) ∧ bm ≠ builtinsNs ∧ s.heap.get? bm = some ob ∧ ob.cls = .type "module" ∧ ob.dict = some builtinsNs ∧ ob.data = .plain)
    (ha : s.heap.get? a = some { cls := .type "list", data := .seq vs.toArray }) (hi : IntsAre vs ns) (hl : ns.length ≤ sizeLine) (hr : Room k callerA)
    (G : ∀ base : Heap, K.In base → base.Ns mainGlobals mg → (∀ p ∈ cs, LamX.TabB base mg p.1 p.2) → FnG P w K mg base T k fa fd [x] F) (hbind : ∀ (s : Shared) (u : Value), BindsTo s fd ⟨[u], []⟩ [(x, u)])
    (hsp : ∀ H : Hp, (∀ p ∈ cs, H p.2 = some (.tbl #[])) → SqL K H a (ns.map V.int) → rL K mg T (mArgs 1 F) [.ref a] H (fun v _ => v = .bl true)) :
    codeAny (model P w) callerA (.call (.ref fa) ⟨[.ref a], []⟩) (fun r s' => r = .ok (.ret (.bool true)) ∧ OldK s.heap s'.heap ∧ s'.os = s.os ∧ AllBare s'.gens) s := by
  classical
  let tabs : List Addr := cs.map (·.2)
  let H : Hp := fun b => if b ∈ tabs then some (.tbl #[]) else if b = a ∧ K.lookup a = none then some (.frz { cls := .type "list", data := .seq vs.toArray } (.lst (ns.map V.int))) else none
  have mt : ∀ p ∈ cs, p.2 ∈ tabs := fun p hp => List.mem_map.mpr ⟨p, hp, rfl⟩
  have tObj : ∀ b ∈ tabs, s.heap.get? b = some { cls := .none, data := .fields #[] } := fun b hb => by
    obtain ⟨p, hp, rfl⟩ := List.mem_map.mp hb
    exact hT p hp
  have H1 : ∀ b ∈ tabs, H b = some (.tbl #[]) := fun b hb => if_pos hb
  have aT : a ∉ tabs := fun z => by
    have e := tObj a z
    rw [ha] at e
    exact nomatch congrArg Obj.data (Option.some.inj e)
  have H2 : ∀ b u, H b = some u → (b ∈ tabs ∧ u = .tbl #[]) ∨ (b = a ∧ b ∉ tabs ∧ K.lookup a = none ∧ u = .frz { cls := .type "list", data := .seq vs.toArray } (.lst (ns.map V.int))) := fun b u e => by
    by_cases hb : b ∈ tabs
    · rw [H1 b hb] at e
      exact .inl ⟨hb, (Option.some.inj e).symm⟩
    · have e1 : H b = if b = a ∧ K.lookup a = none then some (.frz { cls := .type "list", data := .seq vs.toArray } (.lst (ns.map V.int))) else none := if_neg hb
      by_cases hc : b = a ∧ K.lookup a = none
      · rw [e1, if_pos hc] at e
        exact .inr ⟨hc.1, hb, hc.2, (Option.some.inj e).symm⟩
      · rw [e1, if_neg hc] at e
        cases e
  have rv := vals_ints hi
  have sq : SqL K H a (ns.map V.int) := by
    cases hk : K.lookup a with
    | none => exact .inl (.inr ⟨{ cls := .type "list", data := .seq vs.toArray }, by
        have e1 : H a = if a = a ∧ K.lookup a = none then some (.frz { cls := .type "list", data := .seq vs.toArray } (.lst (ns.map V.int))) else none := if_neg aT
        rw [e1, if_pos ⟨rfl, hk⟩]⟩)
    | some o =>
      have e := KX a o hk
      rw [ha] at e
      cases e
      exact .inr ⟨_, vs.toArray, _, hk, rfl, rfl, rfl, by rw [List.size_toArray, hi.length]; exact hl, by simpa using rv⟩
  have hok : HOk P w H s.heap := fun b u e => by
    rcases H2 b u e with ⟨hb, rfl⟩ | ⟨rfl, _, _, rfl⟩
    · exact tObj b hb
    · exact ⟨ha, by rw [List.length_map]; exact hl, vs, _, rv, ha⟩
  have clear : ∀ {b : Addr} {o : Obj}, s.heap.get? b = some o → (∀ ws n, o.data ≠ .seq ws n) → o.data ≠ .fields #[] → H b = none := fun {b o} e n1 n2 => by
    cases q : H b with
    | none => rfl
    | some u =>
      rcases H2 b u q with ⟨hb, _⟩ | ⟨rfl, _⟩
      · rw [tObj b hb] at e
        cases e
        exact absurd rfl n2
      · rw [ha] at e
        cases e
        exact absurd rfl (n1 _ _)
  have nsB : ∀ {b : Addr} {m : Str → Option Value}, s.heap.Ns b m → (hidT s.heap H).Ns b m := fun {b m} ⟨o, es, ep, e, d, r⟩ =>
    ⟨o, es, ep, hidT_get e (clear e (fun _ _ z => by rw [d] at z; cases z) (fun z => by rw [d] at z; cases z)), d, r⟩
  have KB : K.In (hidT s.heap H) := fun b o e => hidT_get (KX b o e) (by
    cases q : H b with
    | none => rfl
    | some u =>
      rcases H2 b u q with ⟨hb, _⟩ | ⟨rfl, _, hk, _⟩
      · obtain ⟨p, hp, rfl⟩ := List.mem_map.mp hb
        rw [nT p hp] at e
        cases e
      · rw [hk] at e
        cases e)
  have modB : L2.Mod K mg (hidT s.heap H) := ⟨KB, nsB hG, ⟨mb, nsB hB, hBB⟩, let ⟨mc, q1, q2⟩ := hNL; ⟨mc, nsB q1, q2⟩⟩
  have TB : ∀ p ∈ cs, LamX.TabB (hidT s.heap H) mg p.1 p.2 := fun p hp => by
    refine ⟨?_, ?_, fun z => ?_⟩
    · obtain ⟨o, us, file, tf, flags, tg, inF, text, tt, q0, q1, q2, q3, q⟩ := hC p hp
      refine ⟨o, us, file, tf, flags, tg, inF, text, tt, hidT_get q0 (clear q0 (fun _ _ z => by rw [q2] at z; cases z) fun z => ?_), q1, q2, q3, q⟩
      rw [q2] at z
      cases z
      simp at q3
    · obtain ⟨bm, ob, b1, b2, b3, b4, b5, b6⟩ := hbm
      refine ⟨bm, ob, b1, b2, fun q => ?_, fun q => ?_, hidT_get b3 (clear b3 (fun _ _ z => by rw [b6] at z; cases z) fun z => by rw [b6] at z; cases z), b4, b5, b6⟩
      · obtain ⟨o, es, ep, e, d, _⟩ := hG
        rw [q, e] at b3
        cases b3
        rw [d] at b6
        cases b6
      · rw [q, hT p hp] at b3
        cases b3
        cases b6
    · obtain ⟨o, es, ep, e, d, _⟩ := hG
      rw [z, hT p hp] at e
      cases e
      cases d
  have e0 : Env0 P w K mg (hidT s.heap H) callerA [] s H := ⟨rfl, modB, fun b o e => of_hidT e, Nat.le_of_eq (hidT_size _ _), trivial, fun b hb => absurd (show b ∈ ([] : List Addr) from hb) (by simp), hok, .of_eq hgen⟩
  refine codeAny_mono ((G _ KB (nsB hG) TB).run callerA [] s H ⟨[.ref a], []⟩ [.ref a] [.ref a] _ ⟨hr, rfl⟩ e0 (hbind s (.ref a)) (.cons rfl .nil) (hsp H (fun p hp => H1 _ (mt p hp)) sq)) fun r s' h => ?_
  cases r with
  | error e => exact (show False from h).elim
  | ok fl =>
    cases fl with
    | next => exact False.elim h
    | brk => exact False.elim h
    | cont => exact False.elim h
    | ret u =>
      obtain ⟨v, H', os, bare, un, hok', rr, q⟩ := h
      have q : v = .bl true := q
      subst q
      obtain rfl : u = Value.bool true := rr
      have stays : ∀ b o, b ∉ tabs → s.heap.get? b = some o → s'.heap.get? b = some o := fun b o nb e => by
        cases q : H b with
        | none => exact un.keep b o e q (fun z => absurd (show b ∈ ([] : List Addr) from z) (by simp)) (by simp)
        | some u =>
          rcases H2 b u q with ⟨hb, _⟩ | ⟨rfl, _, _, rfl⟩
          · exact absurd hb nb
          · rw [(hok b _ q).1] at e
            cases e
            exact (hok' b _ (un.frzs b _ _ q)).1
      have grows : ∀ p ∈ cs, ∃ more : Array Value, s'.heap.get? p.2 = some { cls := .none, data := .fields more } := fun p hp => by
        obtain ⟨more, z⟩ := un.tbls p.2 #[] (H1 _ (mt p hp))
        exact ⟨_, hok' p.2 _ z⟩
      refine ⟨rfl, ⟨fun b o e => ?_, fun b o e => ?_⟩, os, bare⟩
      · by_cases hb : b ∈ tabs
        · obtain ⟨p, hp, rfl⟩ := List.mem_map.mp hb
          obtain ⟨more, hm⟩ := grows p hp
          rw [hT p hp] at e
          cases e
          exact .inr (.inl ⟨((hC p hp).tab (hT p hp)).isCodeTable, rfl, #[], more, rfl, by rw [Array.empty_append]; exact hm⟩)
        · exact .inl (stays b o hb e)
      · by_cases hb : b ∈ tabs
        · obtain ⟨p, hp, rfl⟩ := List.mem_map.mp hb
          obtain ⟨more, hm⟩ := grows p hp
          exact ⟨_, hm⟩
        · exact ⟨o, stays b o hb e⟩
/-- what is known of a law's def -/
def LawG (l : PySem.W.OpenLaw) (w : World) (K : PySem.W.Frag) (k n : Nat) (x : Str) (mg : Str → Option Value) (fa : Addr) (h : Heap) : Prop :=
  ∃ (fd : FuncData) (cs : List (Addr × Addr)) (T : List NdefX.NTab) (F : List D → M D), (∀ p ∈ cs, h.get? p.2 = some { cls := .none, data := .fields #[] }) ∧ (∀ p ∈ cs, K.lookup p.2 = none) ∧ (∀ p ∈ cs, PySem.W.CodeHd h p.1 p.2) ∧ (∀ (s : Shared) (u : Value), BindsTo s fd ⟨[u], []⟩ [(x, u)]) ∧
    (∀ (H : Hp) (a : Addr) (ns : List Int), ns.length ≤ n → (∀ p ∈ cs, H p.2 = some (.tbl #[])) → SqL K H a (ns.map V.int) → rL K mg T (mArgs 1 F) [.ref a] H (fun v _ => v = .bl true)) ∧
    ∀ base : Heap, K.In base → base.Ns mainGlobals mg → (∀ p ∈ cs, LamX.TabB base mg p.1 p.2) → FnG l.prog w K mg base T k fa fd [x] F
theorem walk_lawG {l : PySem.W.OpenLaw} {n k : Nat} {q : Program} {loose : List Str} {XP : (Str → Option Value) → Heap → Prop} {YP : World → Heap → Prop} {d : DefRec} {x : Str} (hn : l.most = some n) (hn2 : n ≤ sizeLine) (hdf : d.params.defaults = []) (hr : Room k callerA)
    (F : ∀ (w : World) (mg : Str → Option Value) (fa : Addr) (h : Heap), YP w h → h.Ns mainGlobals mg → mg d.name = some (.ref fa) → ∃ K : PySem.W.Frag, K.In h ∧ LawG l w K k n x mg fa h) : PySem.W.WalkO q loose XP YP l.row.toRowW d [] (fun f vs => PySem.call f vs) := by
  refine Att.attach_callB hn hdf fun w s₀ s mg mb fa o pm cd doc a vs ns G Y _ _ _ hmg hobj hints hlen _ hgen => ?_
  obtain ⟨K, KX, fd, cs, T, f, h1, h2, h3, h4, h5, h6⟩ := F w mg fa _ Y G.T.g hmg
  exact law_endG KX G.T.g G.T.b G.T.builtins G.T.nolimit hgen h1 h2 h3 G.T.bmain hobj hints (Nat.le_trans hlen hn2) hr h6 h4 fun H hH hS => h5 H a ns hlen hH hS
end VL
namespace K73
open PySem PySem.Spec PyProof.Rows L2 VL Sh
abbrev R : PySem.W.OpenRow := PySem.W.OpenLaw.row PySem.Challenge.rw_frontshelf_k73_whole_askings_left_out
def fa : List He.Fa := ([.glo "_law_dip", .glo "_law_one", .glo "_law_words", .glo "_law_shelf", .glo "_law_ask", .glo "_law_led", .glo "_law_ends", .glo "_law_asks", .glo "_law_orders", .glo "_law_shelves", .glo "is_word", .glo "is_name", .glo "is_shelf_form", .glo "check_shelf", .glo "wrong_at", .glo "is_one_of", .glo "wrong_askings", .glo "check_askings_of", .glo "check_asked", .glo "last_of"] : List He.Fa) ++ ([.glo "deed_by", .glo "left_out_at", .glo "can_leave", .glo "needless_at", .glo "again_in", .glo "asked_again", .glo "thinned", .glo "_law_right", .glo "_law_well", .glo "_law_turns", .glo "law", .free "abs", .free "all", .free "divmod", .free "enumerate", .free "int", .free "isinstance", .free "len", .free "list", .free "max"] : List He.Fa) ++ ([.free "min", .free "range", .free "repr", .free "sorted", .free "str", .free "tuple", .int "MOST_ASKINGS" 30, .int "MOST_BOOKS" 7, .int "MOST_SIGNS" 8, .str "SMALL" "abcdefghijklmnopqrstuvwxyz", .glo "WORDS"] : List He.Fa)
def fn : List He.DefD := ([d_x_law_dip, d_x_law_one, d_x_law_words, d_x_law_shelf, d_x_law_ask, d_x_law_led, d_x_law_ends, d_x_law_asks, d_x_law_orders, d_x_law_shelves, d_is_word, d_is_name, d_is_shelf_form, d_check_shelf, d_wrong_at, d_is_one_of, d_wrong_askings, d_check_askings_of, d_check_asked, d_last_of] : List He.DefD) ++ ([d_deed_by, d_left_out_at, d_can_leave, d_needless_at, d_again_in, d_asked_again, d_thinned, d_x_law_right, d_x_law_well, d_x_law_turns, d_law] : List He.DefD)
def tp : List TupF := ([("WORDS", c_WORDS.map He.Dv.str)] : List TupF)
def tf : List He.Defn := ([("wrong_askings", none)] : List He.Defn)
def ex (K : PySem.W.Frag) : Bool := tupsB tp K
abbrev hk : PySem.W.Hook := He.hookX 4 fa fn [] tf ex
def ob (s : PySem.W.SharedT) : He.AlX := He.obsX 4 fa fn [] tf ex (HandSHeadRun.getT s)
theorem ob_eq (s : PySem.W.SharedT) : ob s = hk.obs s.abs := He.obsX_eq (HandSHeadRun.getT_eq s)
def loose : List PySem.Str := (["ShelfError", "InvalidShelf", "InvalidAskings", "SMALL", "MOST_SIGNS", "WORDS", "wrong_at", "is_one_of", "is_word", "is_name", "MOST_BOOKS", "MOST_ASKINGS", "is_shelf_form", "wrong_askings", "last_of", "deed_by", "check_shelf", "check_askings_of", "check_asked", "left_out_at"] : List PySem.Str) ++ (["can_leave", "again_in", "needless_at", "asked_again", "thinned", "_law_well", "_law_dip", "_law_one", "_law_turns", "_law_words", "_law_shelf", "_law_asks", "_law_ask", "_law_led", "_law_orders", "_law_shelves", "_law_ends", "_law_right"] : List PySem.Str)
theorem run (w : World) : HandSHeadRun.RunEq R (PySem.W.view R.prog [44]) hk ob 4000 loose w := by
  intro os
  kernel_rfl
theorem facts {P : Program} {w : World} {K : PySem.W.Frag} {h : Heap} {mg : Str → Option Value} {f : Addr} (X : K.In h) (G : h.Ns mainGlobals mg) (hfa : mg ("law" : Str) = some (.ref f)) (c : He.SaysX fa fn [] tf ex w h K) :
    ∃ fd : FuncData, (∀ (s : Shared) (v : Value), BindsTo s fd ⟨[v], []⟩ [("script", v)]) ∧ ∀ base : Heap, K.In base → base.Ns mainGlobals mg → (∀ p ∈ tf.map (He.cT K), LamX.TabB base mg p.1 p.2) → FnG P w K mg base (tabT (tabsOf tf K)) 9 f fd ["script"] f_law := by
  obtain ⟨fd_x_law_dip, F_x_law_dip⟩ := c.t.d.def_ 0 (d := d_x_law_dip) rfl
  have m_x_law_dip : mg "_law_dip" = some (.ref _) := He.glo_ok X G (c.t.d.fact 0 (f := .glo "_law_dip") rfl)
  obtain ⟨fd_x_law_one, F_x_law_one⟩ := c.t.d.def_ 1 (d := d_x_law_one) rfl
  have m_x_law_one : mg "_law_one" = some (.ref _) := He.glo_ok X G (c.t.d.fact 1 (f := .glo "_law_one") rfl)
  obtain ⟨fd_x_law_words, F_x_law_words⟩ := c.t.d.def_ 2 (d := d_x_law_words) rfl
  have m_x_law_words : mg "_law_words" = some (.ref _) := He.glo_ok X G (c.t.d.fact 2 (f := .glo "_law_words") rfl)
  obtain ⟨fd_x_law_shelf, F_x_law_shelf⟩ := c.t.d.def_ 3 (d := d_x_law_shelf) rfl
  have m_x_law_shelf : mg "_law_shelf" = some (.ref _) := He.glo_ok X G (c.t.d.fact 3 (f := .glo "_law_shelf") rfl)
  obtain ⟨fd_x_law_ask, F_x_law_ask⟩ := c.t.d.def_ 4 (d := d_x_law_ask) rfl
  have m_x_law_ask : mg "_law_ask" = some (.ref _) := He.glo_ok X G (c.t.d.fact 4 (f := .glo "_law_ask") rfl)
  obtain ⟨fd_x_law_led, F_x_law_led⟩ := c.t.d.def_ 5 (d := d_x_law_led) rfl
  have m_x_law_led : mg "_law_led" = some (.ref _) := He.glo_ok X G (c.t.d.fact 5 (f := .glo "_law_led") rfl)
  obtain ⟨fd_x_law_ends, F_x_law_ends⟩ := c.t.d.def_ 6 (d := d_x_law_ends) rfl
  have m_x_law_ends : mg "_law_ends" = some (.ref _) := He.glo_ok X G (c.t.d.fact 6 (f := .glo "_law_ends") rfl)
  obtain ⟨fd_x_law_asks, F_x_law_asks⟩ := c.t.d.def_ 7 (d := d_x_law_asks) rfl
  have m_x_law_asks : mg "_law_asks" = some (.ref _) := He.glo_ok X G (c.t.d.fact 7 (f := .glo "_law_asks") rfl)
  obtain ⟨fd_x_law_orders, F_x_law_orders⟩ := c.t.d.def_ 8 (d := d_x_law_orders) rfl
  have m_x_law_orders : mg "_law_orders" = some (.ref _) := He.glo_ok X G (c.t.d.fact 8 (f := .glo "_law_orders") rfl)
  obtain ⟨fd_x_law_shelves, F_x_law_shelves⟩ := c.t.d.def_ 9 (d := d_x_law_shelves) rfl
  have m_x_law_shelves : mg "_law_shelves" = some (.ref _) := He.glo_ok X G (c.t.d.fact 9 (f := .glo "_law_shelves") rfl)
  obtain ⟨fd_is_word, F_is_word⟩ := c.t.d.def_ 10 (d := d_is_word) rfl
  have m_is_word : mg "is_word" = some (.ref _) := He.glo_ok X G (c.t.d.fact 10 (f := .glo "is_word") rfl)
  obtain ⟨fd_is_name, F_is_name⟩ := c.t.d.def_ 11 (d := d_is_name) rfl
  have m_is_name : mg "is_name" = some (.ref _) := He.glo_ok X G (c.t.d.fact 11 (f := .glo "is_name") rfl)
  obtain ⟨fd_is_shelf_form, F_is_shelf_form⟩ := c.t.d.def_ 12 (d := d_is_shelf_form) rfl
  have m_is_shelf_form : mg "is_shelf_form" = some (.ref _) := He.glo_ok X G (c.t.d.fact 12 (f := .glo "is_shelf_form") rfl)
  obtain ⟨fd_check_shelf, F_check_shelf⟩ := c.t.d.def_ 13 (d := d_check_shelf) rfl
  have m_check_shelf : mg "check_shelf" = some (.ref _) := He.glo_ok X G (c.t.d.fact 13 (f := .glo "check_shelf") rfl)
  obtain ⟨fd_wrong_at, F_wrong_at⟩ := c.t.d.def_ 14 (d := d_wrong_at) rfl
  have m_wrong_at : mg "wrong_at" = some (.ref _) := He.glo_ok X G (c.t.d.fact 14 (f := .glo "wrong_at") rfl)
  obtain ⟨fd_is_one_of, F_is_one_of⟩ := c.t.d.def_ 15 (d := d_is_one_of) rfl
  have m_is_one_of : mg "is_one_of" = some (.ref _) := He.glo_ok X G (c.t.d.fact 15 (f := .glo "is_one_of") rfl)
  obtain ⟨fd_wrong_askings, F_wrong_askings⟩ := c.t.d.def_ 16 (d := d_wrong_askings) rfl
  have m_wrong_askings : mg "wrong_askings" = some (.ref (He.fAd K ("wrong_askings", none))) := He.glo_ok X G (c.t.d.fact 16 (f := .glo "wrong_askings") rfl)
  obtain ⟨fd_check_askings_of, F_check_askings_of⟩ := c.t.d.def_ 17 (d := d_check_askings_of) rfl
  have m_check_askings_of : mg "check_askings_of" = some (.ref _) := He.glo_ok X G (c.t.d.fact 17 (f := .glo "check_askings_of") rfl)
  obtain ⟨fd_check_asked, F_check_asked⟩ := c.t.d.def_ 18 (d := d_check_asked) rfl
  have m_check_asked : mg "check_asked" = some (.ref _) := He.glo_ok X G (c.t.d.fact 18 (f := .glo "check_asked") rfl)
  obtain ⟨fd_last_of, F_last_of⟩ := c.t.d.def_ 19 (d := d_last_of) rfl
  have m_last_of : mg "last_of" = some (.ref _) := He.glo_ok X G (c.t.d.fact 19 (f := .glo "last_of") rfl)
  obtain ⟨fd_deed_by, F_deed_by⟩ := c.t.d.def_ 20 (d := d_deed_by) rfl
  have m_deed_by : mg "deed_by" = some (.ref _) := He.glo_ok X G (c.t.d.fact 20 (f := .glo "deed_by") rfl)
  obtain ⟨fd_left_out_at, F_left_out_at⟩ := c.t.d.def_ 21 (d := d_left_out_at) rfl
  have m_left_out_at : mg "left_out_at" = some (.ref _) := He.glo_ok X G (c.t.d.fact 21 (f := .glo "left_out_at") rfl)
  obtain ⟨fd_can_leave, F_can_leave⟩ := c.t.d.def_ 22 (d := d_can_leave) rfl
  have m_can_leave : mg "can_leave" = some (.ref _) := He.glo_ok X G (c.t.d.fact 22 (f := .glo "can_leave") rfl)
  obtain ⟨fd_needless_at, F_needless_at⟩ := c.t.d.def_ 23 (d := d_needless_at) rfl
  have m_needless_at : mg "needless_at" = some (.ref _) := He.glo_ok X G (c.t.d.fact 23 (f := .glo "needless_at") rfl)
  obtain ⟨fd_again_in, F_again_in⟩ := c.t.d.def_ 24 (d := d_again_in) rfl
  have m_again_in : mg "again_in" = some (.ref _) := He.glo_ok X G (c.t.d.fact 24 (f := .glo "again_in") rfl)
  obtain ⟨fd_asked_again, F_asked_again⟩ := c.t.d.def_ 25 (d := d_asked_again) rfl
  have m_asked_again : mg "asked_again" = some (.ref _) := He.glo_ok X G (c.t.d.fact 25 (f := .glo "asked_again") rfl)
  obtain ⟨fd_thinned, F_thinned⟩ := c.t.d.def_ 26 (d := d_thinned) rfl
  have m_thinned : mg "thinned" = some (.ref _) := He.glo_ok X G (c.t.d.fact 26 (f := .glo "thinned") rfl)
  obtain ⟨fd_x_law_right, F_x_law_right⟩ := c.t.d.def_ 27 (d := d_x_law_right) rfl
  have m_x_law_right : mg "_law_right" = some (.ref _) := He.glo_ok X G (c.t.d.fact 27 (f := .glo "_law_right") rfl)
  obtain ⟨fd_x_law_well, F_x_law_well⟩ := c.t.d.def_ 28 (d := d_x_law_well) rfl
  have m_x_law_well : mg "_law_well" = some (.ref _) := He.glo_ok X G (c.t.d.fact 28 (f := .glo "_law_well") rfl)
  obtain ⟨fd_x_law_turns, F_x_law_turns⟩ := c.t.d.def_ 29 (d := d_x_law_turns) rfl
  have m_x_law_turns : mg "_law_turns" = some (.ref _) := He.glo_ok X G (c.t.d.fact 29 (f := .glo "_law_turns") rfl)
  obtain ⟨fd_law, F_law⟩ := c.t.d.def_ 30 (d := d_law) rfl
  have m_law : mg "law" = some (.ref _) := He.glo_ok X G (c.t.d.fact 30 (f := .glo "law") rfl)
  have e := hfa.symm.trans m_law
  cases e
  have b := FunD.bindsA (ps := ["script"]) F_law fun _ _ _ _ _ _ us hl => match us, hl with | [_], _ => rfl
  have Md : Mod K mg := by
    constructor
    · exact He.free_ok X G (c.t.d.fact 31 (f := .free "abs") rfl)
    · exact He.free_ok X G (c.t.d.fact 32 (f := .free "all") rfl)
    · exact He.free_ok X G (c.t.d.fact 33 (f := .free "divmod") rfl)
    · exact He.free_ok X G (c.t.d.fact 34 (f := .free "enumerate") rfl)
    · exact He.free_ok X G (c.t.d.fact 35 (f := .free "int") rfl)
    · exact He.free_ok X G (c.t.d.fact 36 (f := .free "isinstance") rfl)
    · exact He.free_ok X G (c.t.d.fact 37 (f := .free "len") rfl)
    · exact He.free_ok X G (c.t.d.fact 38 (f := .free "list") rfl)
    · exact He.free_ok X G (c.t.d.fact 39 (f := .free "max") rfl)
    · exact He.free_ok X G (c.t.d.fact 40 (f := .free "min") rfl)
    · exact He.free_ok X G (c.t.d.fact 41 (f := .free "range") rfl)
    · exact He.free_ok X G (c.t.d.fact 42 (f := .free "repr") rfl)
    · exact He.free_ok X G (c.t.d.fact 43 (f := .free "sorted") rfl)
    · exact He.free_ok X G (c.t.d.fact 44 (f := .free "str") rfl)
    · exact He.free_ok X G (c.t.d.fact 45 (f := .free "tuple") rfl)
    · exact He.int_ok X G (c.t.d.fact 46 (f := .int "MOST_ASKINGS" 30) rfl)
    · exact He.int_ok X G (c.t.d.fact 47 (f := .int "MOST_BOOKS" 7) rfl)
    · exact He.int_ok X G (c.t.d.fact 48 (f := .int "MOST_SIGNS" 8) rfl)
    · exact He.str_ok X G (c.t.d.fact 49 (f := .str "SMALL" "abcdefghijklmnopqrstuvwxyz") rfl)
    · exact ⟨_, He.glo_ok X G (c.t.d.fact 50 (f := .glo "WORDS") rfl), fun H => tups_get c.more 0 (x := "WORDS") (vs := c_WORDS.map He.Dv.str) rfl H⟩
  refine ⟨fd_law, fun s v => b s [v] rfl, fun base _ _ TBs => ?_⟩
  have h_x_law_dip := w_x_law_dip (TL := tabsOf tf K) (P := P) (w := w) (base := base) Md   m_x_law_dip F_x_law_dip
  have h_x_law_one := w_x_law_one (TL := tabsOf tf K) (P := P) (w := w) (base := base) Md h_x_law_dip  m_x_law_one F_x_law_one
  have h_x_law_words := w_x_law_words (TL := tabsOf tf K) (P := P) (w := w) (base := base) Md h_x_law_one h_x_law_dip  m_x_law_words F_x_law_words
  have h_x_law_shelf := w_x_law_shelf (TL := tabsOf tf K) (P := P) (w := w) (base := base) Md h_x_law_words h_x_law_dip  m_x_law_shelf F_x_law_shelf
  have h_x_law_ask := w_x_law_ask (TL := tabsOf tf K) (P := P) (w := w) (base := base) Md   m_x_law_ask F_x_law_ask
  have h_x_law_led := w_x_law_led (TL := tabsOf tf K) (P := P) (w := w) (base := base) Md h_x_law_ask  m_x_law_led F_x_law_led
  have h_x_law_ends := w_x_law_ends (TL := tabsOf tf K) (P := P) (w := w) (base := base) Md h_x_law_led  m_x_law_ends F_x_law_ends
  have h_x_law_asks := w_x_law_asks (TL := tabsOf tf K) (P := P) (w := w) (base := base) Md h_x_law_dip h_x_law_one  m_x_law_asks F_x_law_asks
  have h_x_law_orders := w_x_law_orders (TL := tabsOf tf K) (P := P) (w := w) (base := base) Md   m_x_law_orders F_x_law_orders
  have h_x_law_shelves := w_x_law_shelves (TL := tabsOf tf K) (P := P) (w := w) (base := base) Md h_x_law_orders  m_x_law_shelves F_x_law_shelves
  have h_is_word := w_is_word (TL := tabsOf tf K) (P := P) (w := w) (base := base) Md   m_is_word F_is_word
  have h_is_name := w_is_name (TL := tabsOf tf K) (P := P) (w := w) (base := base) Md h_is_word  m_is_name F_is_name
  have h_is_shelf_form := w_is_shelf_form (TL := tabsOf tf K) (P := P) (w := w) (base := base) Md h_is_name  m_is_shelf_form F_is_shelf_form
  have h_check_shelf := w_check_shelf (TL := tabsOf tf K) (P := P) (w := w) (base := base) Md h_is_shelf_form  m_check_shelf F_check_shelf
  have h_is_one_of := w_is_one_of (TL := tabsOf tf K) (P := P) (w := w) (base := base) Md   m_is_one_of F_is_one_of
  have l_wrong_askings_ := l_wrong_askings (TL := tabsOf tf K) (P := P) (w := w) (base := base) Md h_is_one_of
  have h_wrong_at_wrong_askings := w_wrong_at Md l_wrong_askings_ m_wrong_at F_wrong_at
  have h_wrong_askings := w_wrong_askings (TL := tabsOf tf K) (P := P) (w := w) (base := base) Md h_wrong_at_wrong_askings h_is_one_of m_wrong_askings F_wrong_askings (TBs _ (List.mem_of_getElem? (i := 0) rfl)) (List.mem_of_getElem? (i := 0) rfl) (fun p hp _ => by have e := List.mem_singleton.mp hp; rw [e])
  have h_check_askings_of := w_check_askings_of (TL := tabsOf tf K) (P := P) (w := w) (base := base) Md h_wrong_askings  m_check_askings_of F_check_askings_of
  have h_check_asked := w_check_asked (TL := tabsOf tf K) (P := P) (w := w) (base := base) Md h_check_shelf h_check_askings_of  m_check_asked F_check_asked
  have h_last_of := w_last_of (TL := tabsOf tf K) (P := P) (w := w) (base := base) Md   m_last_of F_last_of
  have h_deed_by := w_deed_by (TL := tabsOf tf K) (P := P) (w := w) (base := base) Md h_last_of  m_deed_by F_deed_by
  have h_left_out_at := w_left_out_at (TL := tabsOf tf K) (P := P) (w := w) (base := base) Md   m_left_out_at F_left_out_at
  have h_can_leave := w_can_leave (TL := tabsOf tf K) (P := P) (w := w) (base := base) Md h_deed_by h_left_out_at  m_can_leave F_can_leave
  have h_needless_at := w_needless_at (TL := tabsOf tf K) (P := P) (w := w) (base := base) Md h_check_asked h_can_leave  m_needless_at F_needless_at
  have h_again_in := w_again_in (TL := tabsOf tf K) (P := P) (w := w) (base := base) Md   m_again_in F_again_in
  have h_asked_again := w_asked_again (TL := tabsOf tf K) (P := P) (w := w) (base := base) Md h_check_asked h_again_in  m_asked_again F_asked_again
  have h_thinned := w_thinned (TL := tabsOf tf K) (P := P) (w := w) (base := base) Md h_check_asked h_again_in  m_thinned F_thinned
  have h_x_law_right := w_x_law_right (TL := tabsOf tf K) (P := P) (w := w) (base := base) Md h_x_law_shelf h_x_law_ends h_x_law_asks h_x_law_shelves h_needless_at h_asked_again h_thinned  m_x_law_right F_x_law_right
  have h_x_law_well := w_x_law_well (TL := tabsOf tf K) (P := P) (w := w) (base := base) Md   m_x_law_well F_x_law_well
  have h_x_law_turns := w_x_law_turns (TL := tabsOf tf K) (P := P) (w := w) (base := base) Md   m_x_law_turns F_x_law_turns
  have h_law := w_law (TL := tabsOf tf K) (P := P) (w := w) (base := base) Md h_x_law_right h_x_law_well h_x_law_turns  m_law F_law
  exact Has.fn h_law m_law F_law
end K73
open PySem PySem.W PySem.Calls PyProof.Rows
theorem PySem.Challenge.cw_frontshelf_k73_whole_askings_left_out_holds : PySem.Challenge.rw_frontshelf_k73_whole_askings_left_out.Holds := by
  w_on; o_law
  refine HandSHeadRun.head_any (r := OpenLaw.row PySem.Challenge.rw_frontshelf_k73_whole_askings_left_out) (q := view (OpenLaw.row PySem.Challenge.rw_frontshelf_k73_whole_askings_left_out).prog [44]) (H := K73.hk) (ob := K73.ob) (M := 4000) (loose := K73.loose) (d := HandSHeadRun.topDef (OpenLaw.row PySem.Challenge.rw_frontshelf_k73_whole_askings_left_out).prog 44) (kwd := []) K73.ob_eq
    (by kernel_rfl) (fun s => by kernel_rfl) K73.run (by kernel_rfl) (by kernel_rfl) (by kernel_rfl) (by rfl) (by first | assumption | decide +kernel) (by decide +kernel) ⟨rfl, rfl, rfl, rfl, rfl, by decide +kernel⟩ ?hw ?hc
  case hw => w_witness2
  case hc =>
    refine VL.walk_lawG (l := PySem.Challenge.rw_frontshelf_k73_whole_askings_left_out) (n := 63) (k := 9) (x := "script") rfl (by decide) (by kernel_rfl) ⟨rfl, by decide, by decide⟩ ?F
    intro w mg fa h Y G hmg0
    obtain ⟨K, KX, c⟩ := Y
    have hmg : mg ("law" : PySem.Str) = some (.ref fa) := by
      have e : (HandSHeadRun.topDef (OpenLaw.row PySem.Challenge.rw_frontshelf_k73_whole_askings_left_out).prog 44).name = ("law" : PySem.Str) := by kernel_rfl
      rw [← e]
      exact hmg0
    obtain ⟨fd, hb, hF⟩ := K73.facts (P := (PySem.Challenge.rw_frontshelf_k73_whole_askings_left_out).prog) (w := w) KX G hmg c
    refine ⟨K, KX, fd, K73.tf.map (He.cT K), _, _, fun p hp => ?_, fun p hp => ?_, fun p hp => ?_, hb, fun H a ns hl hT hS => VL.law_startT hT hS (fun sc hsc => K73.law_true ns hsc), fun base hK hB hTB => (hF base hK hB hTB).mono (by decide)⟩
    · obtain ⟨q, hq, rfl⟩ := List.mem_map.mp hp
      exact c.empty q hq
    · obtain ⟨q, hq, rfl⟩ := List.mem_map.mp hp
      exact c.out q hq
    · obtain ⟨q, hq, rfl⟩ := List.mem_map.mp hp
      exact PySem.W.codeHd_of_K KX (c.hd q hq)

