import PyProof.Rows.All
import Wide.All
import OpenK.AllK
import Wide.FinOn
import PySem.Challenge.RW_solidstack_k01_numbers_in_least_terms
import HandS.ForMost
import HandS.ForExc
import HandS.CallSlots
import HandS.Deep
import HandS.Wide
import HandS.WideBits
import HandS.Lambda
import HandS.EndTab
import HandS.FStr
import HandS.AnyAll
import HandS.TupAny
import HandS.Defaults
import HandS.Iter
set_option Elab.async false
set_option linter.all false
set_option maxRecDepth 100000
/-! DL1: data, what stands for it in the heap, states, transitions, readings by data. -/
namespace DL
open PySem PySem.Spec PyProof.Rows L2

/-- plain data -/
inductive D where
  | non | bl (b : Bool) | int (i : Int) | str (x : Str) | tup (ds : List D) | lst (ds : List D)
  | ins (c : Str) (ns : List Str) (ds : List D)
  | dT (ks : List (List Key)) (ds : List D)
  | dK (ks : List Key) (ds : List D)
  | dice
  | scr (ds : List D)
  | lam (k : Nat)

/-- a lambda's text -/
structure LamI where
  qual : Str
  params : Arguments
  body : Expr
  scope : Scope
  clo : List (Str × Addr)
/-- what is known besides: tables of lambdas' code objects, of generators' ones; the dice, if there are; lambdas that are kept -/
structure Gh where
  T : List (Addr × Str)
  GT : List Addr
  a0 : Option Addr
  lams : List LamI
def LamO (f c' : Addr) (i : LamI) : HO := .ext fun h => ∃ pm ctv, h.get? f = some (PySem.W.kla_obj "<lambda>" i.qual i.params i.body i.scope i.clo pm c' ctv)

mutual
/-- v stands for d, by what F tells -/
def Rep (K : PySem.W.Frag) (mg : Str → Option Value) (g : Gh) (F : Hp) : D → V → Prop
  | .non, v => v = .non
  | .bl b, v => v = .bl b
  | .int i, v => v = .int i
  | .str x, v => v = .str x
  | .tup ds, v => ∃ a vs, v = .ref a ∧ SqT K F a vs ∧ Reps K mg g F ds vs
  | .lst ds, v => ∃ a vs, v = .ref a ∧ F a = some (.lst vs) ∧ Reps K mg g F ds vs
  | .ins c ns ds, v => ∃ a C dx vs, v = .ref a ∧ mg c = some (.ref C) ∧ F a = some (.ins C dx (ns.zip vs)) ∧ ns.length = vs.length ∧ Reps K mg g F ds vs
  | .dT ks ds, v => ∃ a vs, v = .ref a ∧ F a = some (.dT (ks.zip vs)) ∧ ks.length = vs.length ∧ Reps K mg g F ds vs
  | .dK ks ds, v => ∃ a vs, v = .ref a ∧ F a = some (.dK (ks.zip vs)) ∧ ks.length = vs.length ∧ Reps K mg g F ds vs
  | .dice, v => ∃ a, g.a0 = some a ∧ v = .ref a
  | .scr ds, v => ∃ a vs, v = .ref a ∧ SqL K F a vs ∧ Reps K mg g F ds vs
  | .lam k, v => ∃ f c' i, v = .ref f ∧ g.lams[k]? = some i ∧ F f = some (LamO f c' i) ∧ F c' = some (LamX.CodeO c' i.qual)
def Reps (K : PySem.W.Frag) (mg : Str → Option Value) (g : Gh) (F : Hp) : List D → List V → Prop
  | [], vs => vs = []
  | d :: ds, vs => ∃ v r, vs = v :: r ∧ Rep K mg g F d v ∧ Reps K mg g F ds r
end

/-- all that F tells H tells -/
def Sub (F H : Hp) : Prop := ∀ b o, F b = some o → H b = some o
theorem Sub.refl (F : Hp) : Sub F F := fun _ _ h => h
theorem Sub.trans {F G H : Hp} (a : Sub F G) (b : Sub G H) : Sub F H := fun c o h => b c o (a c o h)
theorem Sub.sqL {K : PySem.W.Frag} {F H : Hp} {a : Addr} {xs : List V} (e : Sub F H) (h : SqL K F a xs) : SqL K H a xs := by
  rcases h with (h | ⟨o, h⟩) | h
  · exact .inl (.inl (e _ _ h))
  · exact .inl (.inr ⟨o, e _ _ h⟩)
  · exact .inr h
theorem Sub.sqT {K : PySem.W.Frag} {F H : Hp} {a : Addr} {xs : List V} (e : Sub F H) (h : SqT K F a xs) : SqT K H a xs := by
  rcases h with (h | ⟨o, h⟩) | h
  · exact .inl (.inl (e _ _ h))
  · exact .inl (.inr ⟨o, e _ _ h⟩)
  · exact .inr h

section
variable {K : PySem.W.Frag} {mg : Str → Option Value} {g : Gh} {F H : Hp}
mutual
theorem Rep.mono (e : Sub F H) : ∀ (d : D) (v : V), Rep K mg g F d v → Rep K mg g H d v
  | .non, _, h => h
  | .bl _, _, h => h
  | .int _, _, h => h
  | .str _, _, h => h
  | .tup ds, v, ⟨a, vs, h1, h2, h3⟩ => ⟨a, vs, h1, e.sqT h2, Reps.mono e ds vs h3⟩
  | .lst ds, v, ⟨a, vs, h1, h2, h3⟩ => ⟨a, vs, h1, e _ _ h2, Reps.mono e ds vs h3⟩
  | .ins c ns ds, v, ⟨a, C, dx, vs, h1, h2, h3, h4, h5⟩ => ⟨a, C, dx, vs, h1, h2, e _ _ h3, h4, Reps.mono e ds vs h5⟩
  | .dT ks ds, v, ⟨a, vs, h1, h2, h3, h4⟩ => ⟨a, vs, h1, e _ _ h2, h3, Reps.mono e ds vs h4⟩
  | .dK ks ds, v, ⟨a, vs, h1, h2, h3, h4⟩ => ⟨a, vs, h1, e _ _ h2, h3, Reps.mono e ds vs h4⟩
  | .dice, _, h => h
  | .scr ds, v, ⟨a, vs, h1, h2, h3⟩ => ⟨a, vs, h1, Sub.sqL e h2, Reps.mono e ds vs h3⟩
  | .lam k, v, ⟨f, c', i, h1, h2, h3, h4⟩ => ⟨f, c', i, h1, h2, e _ _ h3, e _ _ h4⟩
theorem Reps.mono (e : Sub F H) : ∀ (ds : List D) (vs : List V), Reps K mg g F ds vs → Reps K mg g H ds vs
  | [], _, h => h
  | d :: ds, vs, ⟨v, r, h1, h2, h3⟩ => ⟨v, r, h1, Rep.mono e d v h2, Reps.mono e ds r h3⟩
end
theorem Reps.len : ∀ {ds : List D} {vs : List V}, Reps K mg g F ds vs → vs.length = ds.length
  | [], _, h => by cases h; rfl
  | d :: ds, _, h => by
    obtain ⟨v, r, rfl, _, h3⟩ := h
    simp [Reps.len h3]
theorem Reps.get : ∀ {ds : List D} {vs : List V} {i : Nat} {d : D}, Reps K mg g F ds vs → ds[i]? = some d → ∃ v, vs[i]? = some v ∧ Rep K mg g F d v
  | [], _, _, _, _, e => by simp at e
  | d :: ds, _, 0, x, h, e => by
    obtain ⟨v, r, rfl, h2, h3⟩ := h
    simp at e; subst e
    exact ⟨v, rfl, h2⟩
  | d :: ds, _, i + 1, x, h, e => by
    obtain ⟨v, r, rfl, h2, h3⟩ := h
    obtain ⟨w, e1, e2⟩ := Reps.get (i := i) (d := x) h3 (by simpa using e)
    exact ⟨w, by simpa using e1, e2⟩
theorem Reps.append : ∀ {ds es : List D} {vs ws : List V}, Reps K mg g F ds vs → Reps K mg g F es ws → Reps K mg g F (ds ++ es) (vs ++ ws)
  | [], es, vs, ws, h, h' => by cases h; exact h'
  | d :: ds, es, _, ws, h, h' => by
    obtain ⟨v, r, rfl, h2, h3⟩ := h
    exact ⟨v, r ++ ws, rfl, h2, Reps.append h3 h'⟩
theorem Reps.nil : Reps K mg g F [] [] := rfl
theorem Reps.cons {d : D} {ds : List D} {v : V} {vs : List V} (h : Rep K mg g F d v) (h' : Reps K mg g F ds vs) : Reps K mg g F (d :: ds) (v :: vs) := ⟨v, vs, rfl, h, h'⟩
theorem Reps.drop : ∀ {ds : List D} {vs : List V} (n : Nat), Reps K mg g F ds vs → Reps K mg g F (ds.drop n) (vs.drop n)
  | _, _, 0, h => h
  | [], _, n + 1, h => by cases h; rfl
  | d :: ds, _, n + 1, h => by
    obtain ⟨v, r, rfl, h2, h3⟩ := h
    exact Reps.drop n h3
theorem Reps.take : ∀ {ds : List D} {vs : List V} (n : Nat), Reps K mg g F ds vs → Reps K mg g F (ds.take n) (vs.take n)
  | _, _, 0, h => rfl
  | [], _, n + 1, h => by cases h; rfl
  | d :: ds, _, n + 1, h => by
    obtain ⟨v, r, rfl, h2, h3⟩ := h
    exact ⟨v, r.take n, rfl, h2, Reps.take n h3⟩
end

/-- the dice's three numbers -/
abbrev S := Int × Int × Int
def diceV (s : S) : HO := .lst [.int s.1, .int s.2.1, .int s.2.2]

structure Ok (K : PySem.W.Frag) (g : Gh) (F : Hp) (s : S) (H : Hp) : Prop where
  sub : Sub F H
  nota : ∀ b ps, F b ≠ some (.tbl ps)
  tabs : LamX.Tabs g.T H
  gtab : ∀ P ∈ g.GT, GxR.TabG H P
  dF : ∀ a, g.a0 = some a → F a = none
  dice : ∀ a, g.a0 = some a → H a = some (diceV s)

/-- all but tables and the dice stays -/
def Keep (g : Gh) (H H' : Hp) : Prop := ∀ b o, H b = some o → (∀ ps, o ≠ .tbl ps) → g.a0 ≠ some b → H' b = some o
theorem Keep.refl {g : Gh} (H : Hp) : Keep g H H := fun _ _ h _ _ => h
theorem Keep.trans {g : Gh} {H H1 H2 : Hp} (a : Keep g H H1) (b : Keep g H1 H2) : Keep g H H2 := fun c o h n z => b c o (a c o h n z) n z

/-- a code object -/
def Kd (o : HO) : Prop := ∃ c q, o = LamX.CodeO c q
theorem Kd.no {o : HO} {xs : List V} (h : Kd o) : o ≠ .lst xs := fun z => by
  obtain ⟨c, q, rfl⟩ := h
  unfold LamX.CodeO at z
  cases z
/-- from (F, H) to (F', H'): what a def promises -/
structure Step (g : Gh) (F H F' H' : Hp) : Prop where
  sub : Sub F F'
  new : ∀ b o, F' b = some o → F b = none → H b = none ∨ Kd o
  keep : Keep g H H'
  there : ∀ b, H b ≠ none → H' b ≠ none
theorem Step.refl {g : Gh} (F H : Hp) : Step g F H F H := ⟨Sub.refl F, fun b o e n => (by rw [e] at n; cases n), Keep.refl H, fun _ h => h⟩
theorem Step.trans {g : Gh} {F H F1 H1 F2 H2 : Hp} (a : Step g F H F1 H1) (b : Step g F1 H1 F2 H2) : Step g F H F2 H2 := by
  refine ⟨a.sub.trans b.sub, fun c o e n => ?_, a.keep.trans b.keep, fun c h => b.there c (a.there c h)⟩
  cases q : F1 c with
  | some u =>
    have e2 := b.sub c u q
    rw [e] at e2; cases e2
    exact a.new c o q n
  | none =>
    rcases b.new c o e q with z | z
    · cases q2 : H c with
      | none => exact .inl rfl
      | some u => exact absurd z (a.there c (by rw [q2]; simp))
    · exact .inr z

/-- a def's name's content: unset, data, an own list that may still be changed -/
inductive SV where
  | un | d (d : D) | own (ds : List D)

def SlotOk (K : PySem.W.Frag) (mg : Str → Option Value) (g : Gh) (F H0 H : Hp) : SV → Option (Option V) → Prop
  | .un, _ => True
  | .d d, x => ∃ v, x = some (some v) ∧ Rep K mg g F d v
  | .own ds, x => ∃ a vs, x = some (some (.ref a)) ∧ H a = some (.lst vs) ∧ F a = none ∧ H0 a = none ∧ g.a0 ≠ some a ∧ Reps K mg g F ds vs
structure Sl (K : PySem.W.Frag) (mg : Str → Option Value) (g : Gh) (F H0 H : Hp) (ρ : List SV) (σ : L2.St) : Prop where
  len : ρ.length = σ.length
  at_ : ∀ (i : Nat) (x : SV), ρ[i]? = some x → SlotOk K mg g F H0 H x σ[i]?
  dis : ∀ (i j : Nat) (ds es : List D), ρ[i]? = some (.own ds) → ρ[j]? = some (.own es) → σ[i]? = σ[j]? → i = j

structure Z where
  ρ : List SV
  s : S

inductive R (σ α : Type) where
  | ok (a : α) (z : σ)
  | err (c : Str) (z : σ)
  | stuck
def R.bind {σ α β : Type} (r : R σ α) (f : α → σ → R σ β) : R σ β := match r with
  | .ok a z => f a z
  | .err c z => .err c z
  | .stuck => .stuck
@[simp] theorem R.bind_ok {σ α β : Type} (a : α) (z : σ) (f : α → σ → R σ β) : (R.ok a z).bind f = f a z := rfl
@[simp] theorem R.bind_err {σ α β : Type} (c : Str) (z : σ) (f : α → σ → R σ β) : (R.err c z : R σ α).bind f = .err c z := rfl
@[simp] theorem R.bind_stuck {σ α β : Type} (f : α → σ → R σ β) : (R.stuck : R σ α).bind f = .stuck := rfl
theorem R.bind_assoc {σ α β γ : Type} (r : R σ α) (f : α → σ → R σ β) (h : β → σ → R σ γ) : (r.bind f).bind h = r.bind fun a z => (f a z).bind h := by
  cases r <;> rfl
/-- an expression's, a def's, a statement's meaning -/
abbrev ME := Z → R Z D
abbrev ML := Z → R Z (List D)
abbrev MT := Z → R Z Bool
abbrev MF := List D → S → R S D
inductive Fl where
  | nx | rt (d : D) | bk | ct
abbrev MS := Z → R Z Fl

section
variable (K : PySem.W.Frag) (mg : Str → Option Value) (g : Gh)
/-- where a def's body stands: F0, H0 at its entry -/
structure Now (F0 H0 F H : Hp) (z : Z) (σ : L2.St) : Prop where
  st : Step g F0 H0 F H
  ok : Ok K g F z.s H
  sl : Sl K mg g F H0 H z.ρ σ
/-- behind an expression -/
structure Aft (F0 H0 F H : Hp) (z : Z) (F' H' : Hp) (z' : Z) (σ : L2.St) : Prop where
  now : Now K mg g F0 H0 F' H' z' σ
  sub : Sub F F'
  keep : Keep g H H'
  own : ∀ (j : Nat) (es : List D), z'.ρ[j]? = some (.own es) → z.ρ[j]? = some (.own es)
  there : ∀ b, H b ≠ none → H' b ≠ none
  fz : ∀ b o, F' b = some o → F b = none → H b = none ∨ (∃ (j : Nat) (es : List D), z.ρ[j]? = some (.own es) ∧ σ[j]? = some (some (.ref b))) ∨ Kd o
variable (W : WX)
def EErr (F0 H0 : Hp) (σ : L2.St) (F H : Hp) (z : Z) (c : Str) (z' : Z) : Prop := ∀ F' H' C, Aft K mg g F0 H0 F H z F' H' z' σ → mg c = some (.ref C) → W (.ref C) none σ H'
/-- what an expression's result means -/
def E1 (F0 H0 : Hp) (σ : L2.St) (F H : Hp) (z : Z) (r : R Z D) (Q : VK) : Prop := match r with
  | .ok d z' => ∀ F' v H', Aft K mg g F0 H0 F H z F' H' z' σ → Rep K mg g F' d v → Q v H'
  | .err c z' => EErr K mg g W F0 H0 σ F H z c z'
  | .stuck => False
def EL (F0 H0 : Hp) (σ : L2.St) (F H : Hp) (z : Z) (r : R Z (List D)) (Q : List V → Hp → Prop) : Prop := match r with
  | .ok ds z' => ∀ F' vs H', Aft K mg g F0 H0 F H z F' H' z' σ → Reps K mg g F' ds vs → Q vs H'
  | .err c z' => EErr K mg g W F0 H0 σ F H z c z'
  | .stuck => False
def ET (F0 H0 : Hp) (σ : L2.St) (F H : Hp) (z : Z) (r : R Z Bool) (Q : Bool → Hp → Prop) : Prop := match r with
  | .ok b z' => ∀ F' H', Aft K mg g F0 H0 F H z F' H' z' σ → Q b H'
  | .err c z' => EErr K mg g W F0 H0 σ F H z c z'
  | .stuck => False
def RdE (f : ME) : TE := fun σ H Q => ∃ F0 H0 F z, Now K mg g F0 H0 F H z σ ∧ E1 K mg g W F0 H0 σ F H z (f z) Q
def RdL (f : ML) : TA := fun σ H Q => ∃ F0 H0 F z, Now K mg g F0 H0 F H z σ ∧ EL K mg g W F0 H0 σ F H z (f z) Q
def RdT (f : MT) : TT := fun σ H Q => ∃ F0 H0 F z, Now K mg g F0 H0 F H z σ ∧ ET K mg g W F0 H0 σ F H z (f z) Q
/-- what a statement's result means -/
def S1 (F0 H0 : Hp) (r : R Z Fl) (D : Ends) : Prop := match r with
  | .ok .nx z' => ∀ F' σ' H', Now K mg g F0 H0 F' H' z' σ' → D.nx σ' H'
  | .ok .bk z' => ∀ F' σ' H', Now K mg g F0 H0 F' H' z' σ' → D.bk σ' H'
  | .ok .ct z' => ∀ F' σ' H', Now K mg g F0 H0 F' H' z' σ' → D.ct σ' H'
  | .ok (.rt d) z' => ∀ F' v H', Step g F0 H0 F' H' → Ok K g F' z'.s H' → Rep K mg g F' d v → D.rt v H'
  | .err c z' => ∀ F' σ' H' C, Step g F0 H0 F' H' → Ok K g F' z'.s H' → mg c = some (.ref C) → W (.ref C) none σ' H'
  | .stuck => False
def RdS (f : MS) : TS := fun D σ H => ∃ F0 H0 F z, Now K mg g F0 H0 F H z σ ∧ S1 K mg g W F0 H0 (f z) D
/-- what a def promises -/
def spD (n : Nat) (f : MF) : Sp := fun vs H Q E => ∃ F ds s, vs.length = n ∧ Ok K g F s H ∧ Reps K mg g F ds vs ∧ match f ds s with
  | .ok d s' => ∀ F' v H', Step g F H F' H' → Ok K g F' s' H' → Rep K mg g F' d v → Q v H'
  | .err c s' => ∀ F' H' C, Step g F H F' H' → Ok K g F' s' H' → mg c = some (.ref C) → E (.ref C) none H'
  | .stuck => False
end

section
variable {K : PySem.W.Frag} {mg : Str → Option Value} {g : Gh} {W : WX} {F0 H0 F H F' H' F1 H1 : Hp} {σ : L2.St} {z z' z1 : Z} {Q Q' : VK}
theorem SlotOk.mono {x : SV} {y : Option (Option V)} (h : SlotOk K mg g F H0 H x y) (su : Sub F F') (kp : Keep g H H') (fr : ∀ a vs ds, x = .own ds → y = some (some (.ref a)) → H a = some (.lst vs) → F' a = none) : SlotOk K mg g F' H0 H' x y := by
  cases x with
  | un => trivial
  | d d =>
    obtain ⟨v, e, r⟩ := h
    exact ⟨v, e, Rep.mono su _ _ r⟩
  | own ds =>
    obtain ⟨a, vs, e, h1, h2, h3, h4, h5⟩ := h
    exact ⟨a, vs, e, kp _ _ h1 (fun ps q => by cases q) h4, fr a vs ds rfl e h1, h3, h4, Reps.mono su _ _ h5⟩
/-- a def has been called -/
theorem Now.step {s' : S} (n : Now K mg g F0 H0 F H z σ) (st : Step g F H F' H') (ok : Ok K g F' s' H') : Now K mg g F0 H0 F' H' ⟨z.ρ, s'⟩ σ := by
  refine ⟨n.st.trans st, ok, n.sl.len, fun i x e => ?_, n.sl.dis⟩
  refine (n.sl.at_ i x e).mono st.sub st.keep fun a vs ds ex ey eh => ?_
  cases q : F' a with
  | none => rfl
  | some u =>
    have h := n.sl.at_ i x e
    rw [ex] at h
    obtain ⟨a', vs', e1, h1, h2, _, h4, _⟩ := h
    rw [ey] at e1
    cases e1
    rcases st.new a u q h2 with z | z
    · rw [h1] at z
      cases z
    · have e2 := ok.sub a u q
      rw [st.keep a _ h1 (fun ps q => by cases q) h4] at e2
      cases e2
      exact absurd rfl z.no
theorem Aft.refl (n : Now K mg g F0 H0 F H z σ) : Aft K mg g F0 H0 F H z F H z σ := ⟨n, Sub.refl F, Keep.refl H, fun _ _ e => e, fun _ h => h, fun b o e q => (by rw [e] at q; cases q)⟩
/-- behind a call -/
theorem Now.aft {s' : S} (n : Now K mg g F0 H0 F H z σ) (st : Step g F H F' H') (ok : Ok K g F' s' H') : Aft K mg g F0 H0 F H z F' H' ⟨z.ρ, s'⟩ σ := ⟨n.step st ok, st.sub, st.keep, fun _ _ e => e, st.there, fun b o e q => (st.new b o e q).elim .inl fun k => .inr (.inr k)⟩
theorem Aft.trans (a : Aft K mg g F0 H0 F H z F1 H1 z1 σ) (b : Aft K mg g F0 H0 F1 H1 z1 F' H' z' σ) : Aft K mg g F0 H0 F H z F' H' z' σ  := by
  refine ⟨b.now, a.sub.trans b.sub, a.keep.trans b.keep, fun j es e => a.own j es (b.own j es e), fun c h => b.there c (a.there c h), fun c o e q => ?_⟩
  cases q1 : F1 c with
  | some u =>
    have e2 := b.sub c u q1
    rw [e] at e2; cases e2
    exact a.fz c o q1 q
  | none =>
    rcases b.fz c o e q1 with h | ⟨j, es, h1, h2⟩ | h
    · cases q2 : H c with
      | none => exact .inl rfl
      | some u => exact absurd h (a.there c (by rw [q2]; simp))
    · exact .inr (.inl ⟨j, es, a.own j es h1, h2⟩)
    · exact .inr (.inr h)
theorem E1.imp {r : R Z D} (h : E1 K mg g W F0 H0 σ F H z r Q) (hq : ∀ v H, Q v H → Q' v H) : E1 K mg g W F0 H0 σ F H z r Q' := by
  cases r with
  | ok d z => exact fun F' v H' a b => hq _ _ (h F' v H' a b)
  | err c z => exact h
  | stuck => exact h
theorem E1.from {r : R Z D} (a : Aft K mg g F0 H0 F H z F1 H1 z1 σ) (h : E1 K mg g W F0 H0 σ F H z r Q) : E1 K mg g W F0 H0 σ F1 H1 z1 r Q := by
  cases r with
  | ok d z => exact fun F' v H' b r => h F' v H' (a.trans b) r
  | err c z => exact fun F' H' C b e => h F' H' C (a.trans b) e
  | stuck => exact h
theorem EL.from {r : R Z (List D)} {Q : List V → Hp → Prop} (a : Aft K mg g F0 H0 F H z F1 H1 z1 σ) (h : EL K mg g W F0 H0 σ F H z r Q) : EL K mg g W F0 H0 σ F1 H1 z1 r Q := by
  cases r with
  | ok d z => exact fun F' v H' b r => h F' v H' (a.trans b) r
  | err c z => exact fun F' H' C b e => h F' H' C (a.trans b) e
  | stuck => exact h
theorem ET.from {r : R Z Bool} {Q : Bool → Hp → Prop} (a : Aft K mg g F0 H0 F H z F1 H1 z1 σ) (h : ET K mg g W F0 H0 σ F H z r Q) : ET K mg g W F0 H0 σ F1 H1 z1 r Q := by
  cases r with
  | ok d z => exact fun F' H' b => h F' H' (a.trans b)
  | err c z => exact fun F' H' C b e => h F' H' C (a.trans b) e
  | stuck => exact h
/-- the rule of sequence -/
theorem E1.bindE {r : R Z D} {f : D → Z → R Z D} (h : E1 K mg g W F0 H0 σ F H z (r.bind f) Q) :
    E1 K mg g W F0 H0 σ F H z r fun v H1 => ∃ d z1 F1, Aft K mg g F0 H0 F H z F1 H1 z1 σ ∧ Rep K mg g F1 d v ∧ r = .ok d z1 ∧ E1 K mg g W F0 H0 σ F1 H1 z1 (f d z1) Q := by
  cases r with
  | ok d z => exact fun F' v H' a b => ⟨d, z, F', a, b, rfl, E1.from a h⟩
  | err c z => exact h
  | stuck => exact h
theorem E1.bindT {r : R Z D} {f : D → Z → R Z Bool} {Q : Bool → Hp → Prop} (h : ET K mg g W F0 H0 σ F H z (r.bind f) Q) :
    E1 K mg g W F0 H0 σ F H z r fun v H1 => ∃ d z1 F1, Aft K mg g F0 H0 F H z F1 H1 z1 σ ∧ Rep K mg g F1 d v ∧ r = .ok d z1 ∧ ET K mg g W F0 H0 σ F1 H1 z1 (f d z1) Q := by
  cases r with
  | ok d z => exact fun F' v H' a b => ⟨d, z, F', a, b, rfl, ET.from a h⟩
  | err c z => exact h
  | stuck => exact h
theorem E1.bindL {r : R Z D} {f : D → Z → R Z (List D)} {Q : List V → Hp → Prop} (h : EL K mg g W F0 H0 σ F H z (r.bind f) Q) :
    E1 K mg g W F0 H0 σ F H z r fun v H1 => ∃ d z1 F1, Aft K mg g F0 H0 F H z F1 H1 z1 σ ∧ Rep K mg g F1 d v ∧ r = .ok d z1 ∧ EL K mg g W F0 H0 σ F1 H1 z1 (f d z1) Q := by
  cases r with
  | ok d z => exact fun F' v H' a b => ⟨d, z, F', a, b, rfl, EL.from a h⟩
  | err c z => exact h
  | stuck => exact h
theorem EL.bindE {r : R Z (List D)} {f : List D → Z → R Z D} (h : E1 K mg g W F0 H0 σ F H z (r.bind f) Q) :
    EL K mg g W F0 H0 σ F H z r fun v H1 => ∃ d z1 F1, Aft K mg g F0 H0 F H z F1 H1 z1 σ ∧ Reps K mg g F1 d v ∧ r = .ok d z1 ∧ E1 K mg g W F0 H0 σ F1 H1 z1 (f d z1) Q := by
  cases r with
  | ok d z => exact fun F' v H' a b => ⟨d, z, F', a, b, rfl, E1.from a h⟩
  | err c z => exact h
  | stuck => exact h
theorem EL.bindL {r : R Z (List D)} {f : List D → Z → R Z (List D)} {Q : List V → Hp → Prop} (h : EL K mg g W F0 H0 σ F H z (r.bind f) Q) :
    EL K mg g W F0 H0 σ F H z r fun v H1 => ∃ d z1 F1, Aft K mg g F0 H0 F H z F1 H1 z1 σ ∧ Reps K mg g F1 d v ∧ r = .ok d z1 ∧ EL K mg g W F0 H0 σ F1 H1 z1 (f d z1) Q := by
  cases r with
  | ok d z => exact fun F' v H' a b => ⟨d, z, F', a, b, rfl, EL.from a h⟩
  | err c z => exact h
  | stuck => exact h
theorem ET.bindE {r : R Z Bool} {f : Bool → Z → R Z D} (h : E1 K mg g W F0 H0 σ F H z (r.bind f) Q) :
    ET K mg g W F0 H0 σ F H z r fun b H1 => ∃ z1 F1, Aft K mg g F0 H0 F H z F1 H1 z1 σ ∧ r = .ok b z1 ∧ E1 K mg g W F0 H0 σ F1 H1 z1 (f b z1) Q := by
  cases r with
  | ok d z => exact fun F' H' a => ⟨z, F', a, rfl, E1.from a h⟩
  | err c z => exact h
  | stuck => exact h
theorem ET.bindT {r : R Z Bool} {f : Bool → Z → R Z Bool} {Q : Bool → Hp → Prop} (h : ET K mg g W F0 H0 σ F H z (r.bind f) Q) :
    ET K mg g W F0 H0 σ F H z r fun b H1 => ∃ z1 F1, Aft K mg g F0 H0 F H z F1 H1 z1 σ ∧ r = .ok b z1 ∧ ET K mg g W F0 H0 σ F1 H1 z1 (f b z1) Q := by
  cases r with
  | ok d z => exact fun F' H' a => ⟨z, F', a, rfl, ET.from a h⟩
  | err c z => exact h
  | stuck => exact h
end
/-! ### what stands in the heap, new objects -/
section
variable {K : PySem.W.Frag} {mg : Str → Option Value} {g : Gh} {F0 H0 F H : Hp} {σ : L2.St} {z : Z} {p : Addr} {o : HO}
theorem tabs_new {T : List (Addr × Str)} (t : LamX.Tabs T H) (h : H p = none) : LamX.Tabs T (upd H p o) := t.ext fun b u e => by rw [upd_ne (ne_of_none e h)]; exact e
theorem gtab_new {P : Addr} (t : GxR.TabG H P) (h : H p = none) : GxR.TabG (upd H p o) P := by
  obtain ⟨ps, e, k⟩ := t
  exact ⟨ps, by rw [upd_ne (ne_of_none e h)]; exact e, k⟩
theorem Ok.Fnone (ok : Ok K g F z.s H) (h : H p = none) : F p = none := by
  cases q : F p with
  | none => rfl
  | some u => have := ok.sub p u q; rw [h] at this; cases this
/-- a new object, frozen at once -/
theorem Now.newF (n : Now K mg g F0 H0 F H z σ) (h : H p = none) (ho : ∀ ps, o ≠ .tbl ps) : Aft K mg g F0 H0 F H z (upd F p o) (upd H p o) z σ := by
  have hF := n.ok.Fnone h
  have hp : ∀ a, g.a0 = some a → a ≠ p := fun a e => ne_of_none (n.ok.dice a e) h
  have st : Step g F H (upd F p o) (upd H p o) := by
    refine ⟨fun b u e => by rw [upd_ne (ne_of_none e hF)]; exact e, fun b u e q => ?_, fun b u e _ _ => by rw [upd_ne (ne_of_none e h)]; exact e, fun b e => ?_⟩
    · by_cases hb : b = p
      · rw [hb]; exact .inl h
      · rw [upd_ne hb, q] at e; cases e
    · by_cases hb : b = p
      · rw [hb, upd_same]; simp
      · rw [upd_ne hb]; exact e
  have ok : Ok K g (upd F p o) z.s (upd H p o) := by
    refine ⟨fun b u e => ?_, fun b ps e => ?_, tabs_new n.ok.tabs h, fun P hP => gtab_new (n.ok.gtab P hP) h, fun a e => (by rw [upd_ne (hp a e)]; exact n.ok.dF a e), fun a e => (by rw [upd_ne (hp a e)]; exact n.ok.dice a e)⟩
    · by_cases hb : b = p
      · rw [hb, upd_same] at e ⊢; exact e
      · rw [upd_ne hb] at e ⊢; exact n.ok.sub b u e
    · by_cases hb : b = p
      · rw [hb, upd_same] at e; exact ho ps (Option.some.inj e)
      · rw [upd_ne hb] at e; exact n.ok.nota b ps e
  exact n.aft st ok
/-- a new object, not frozen -/
theorem Now.newO (n : Now K mg g F0 H0 F H z σ) (h : H p = none) : Aft K mg g F0 H0 F H z F (upd H p o) z σ ∧ F p = none ∧ H0 p = none ∧ g.a0 ≠ some p := by
  have hF := n.ok.Fnone h
  have hp : ∀ a, g.a0 = some a → a ≠ p := fun a e => ne_of_none (n.ok.dice a e) h
  have st : Step g F H F (upd H p o) := by
    refine ⟨Sub.refl F, fun b u e q => (by rw [e] at q; cases q), fun b u e _ _ => by rw [upd_ne (ne_of_none e h)]; exact e, fun b e => ?_⟩
    by_cases hb : b = p
    · rw [hb, upd_same]; simp
    · rw [upd_ne hb]; exact e
  have ok : Ok K g F z.s (upd H p o) := by
    refine ⟨fun b u e => ?_, n.ok.nota, tabs_new n.ok.tabs h, fun P hP => gtab_new (n.ok.gtab P hP) h, n.ok.dF, fun a e => (by rw [upd_ne (hp a e)]; exact n.ok.dice a e)⟩
    rw [upd_ne (ne_of_none e hF)]; exact n.ok.sub b u e
  refine ⟨n.aft st ok, hF, ?_, fun e => hp p e rfl⟩
  cases q : H0 p with
  | none => rfl
  | some u => exact absurd h (n.st.there p (by rw [q]; simp))
/-- a list is frozen -/
theorem Now.freeze {a : Addr} {vs : List V} {ρ' : List SV} (n : Now K mg g F0 H0 F H z σ) (h : H a = some (.lst vs)) (hF : F a = none) (hH : H0 a = none) (ha : g.a0 ≠ some a)
    (hl : ρ'.length = z.ρ.length) (hρ : ∀ (i : Nat) (x : SV), ρ'[i]? = some x → (z.ρ[i]? = some x ∧ ∀ ds, x = .own ds → σ[i]? ≠ some (some (.ref a))) ∨ ∃ d, x = .d d ∧ ∃ v, σ[i]? = some (some v) ∧ Rep K mg g (upd F a (.lst vs)) d v) :
    Now K mg g F0 H0 (upd F a (.lst vs)) H ⟨ρ', z.s⟩ σ ∧ Sub F (upd F a (.lst vs)) ∧ ∀ (j : Nat) (es : List D), ρ'[j]? = some (.own es) → z.ρ[j]? = some (.own es) := by
  have su : Sub F (upd F a (.lst vs)) := fun b u e => by rw [upd_ne (ne_of_none e hF)]; exact e
  have st : Step g F0 H0 (upd F a (.lst vs)) H := by
    refine ⟨n.st.sub.trans su, fun b u e q => ?_, n.st.keep, n.st.there⟩
    by_cases hb : b = a
    · rw [hb]; exact .inl hH
    · rw [upd_ne hb] at e; exact n.st.new b u e q
  refine ⟨⟨st, ⟨fun b u e => ?_, fun b ps e => ?_, n.ok.tabs, n.ok.gtab, fun b e => (by rw [upd_ne (fun z => ha (by rw [e, z]))]; exact n.ok.dF b e), n.ok.dice⟩, ?_⟩, su, fun i es e => ?_⟩
  · by_cases hb : b = a
    · rw [hb, upd_same] at e; rw [hb, ← e]; exact h
    · rw [upd_ne hb] at e; exact n.ok.sub b u e
  · by_cases hb : b = a
    · rw [hb, upd_same] at e; cases e
    · rw [upd_ne hb] at e; exact n.ok.nota b ps e
  · refine ⟨hl.trans n.sl.len, fun i x e => ?_, fun i j ds es e1 e2 q => ?_⟩
    · rcases hρ i x e with ⟨e', ne⟩ | ⟨d, ex, v, ev, r⟩
      · refine (n.sl.at_ i x e').mono su (Keep.refl H) fun b ws ds ex ey eh => ?_
        have nb : b ≠ a := fun z => ne ds ex (by rw [ey, z])
        rw [upd_ne nb]
        have q := n.sl.at_ i x e'
        rw [ex] at q
        obtain ⟨b', _, e1, _, h2, _⟩ := q
        rw [ey] at e1; cases e1
        exact h2
      · rw [ex]
        exact ⟨v, ev, r⟩
    · rcases hρ i _ e1 with ⟨e1', _⟩ | ⟨d, ex, _⟩
      · rcases hρ j _ e2 with ⟨e2', _⟩ | ⟨d, ex, _⟩
        · exact n.sl.dis i j ds es e1' e2' q
        · cases ex
      · cases ex
  · rcases hρ i _ e with ⟨e', _⟩ | ⟨d, ex, _⟩
    · exact e'
    · cases ex
end
end DL

set_option Elab.async false
set_option linter.all false
set_option maxRecDepth 100000
/-! DL2: expressions by data. -/
namespace DL
open PySem PySem.Spec PyProof.Rows L2

theorem PE_weak {X : Cx} {e : Expr} {t t' : TE} (h : PE X e t) (w : ∀ σ H Q, t' σ H Q → t σ H Q) : PE X e t' := ⟨fun pins s σ H Q I q => h.run pins s σ H Q I (w σ H Q q)⟩
theorem PT_weak {X : Cx} {e : Expr} {t t' : TT} (h : PT X e t) (w : ∀ σ H Q, t' σ H Q → t σ H Q) : PT X e t' := ⟨fun pins s σ H Q I q => h.run pins s σ H Q I (w σ H Q q)⟩
theorem PW_weak {X : Cx} {e : Expr} {t t' : TT} (h : PW X e t) (w : ∀ σ H Q, t' σ H Q → t σ H Q) : PW X e t' := ⟨fun wh pins s σ H Q I q => h.run wh pins s σ H Q I (w σ H Q q)⟩
theorem PA_weak {X : Cx} {e : List Expr} {t t' : TA} (h : PA X e t) (w : ∀ σ H Q, t' σ H Q → t σ H Q) : PA X e t' := ⟨fun p pins s σ H Q I q => h.run p pins s σ H Q I (w σ H Q q)⟩
theorem PS_weak {X : Cx} {e : Stmt} {t t' : TS} (h : PS X e t) (w : ∀ D σ H, t' D σ H → t D σ H) : PS X e t' := ⟨fun pins s σ H D I q => h.run pins s σ H D I (w D σ H q)⟩
theorem PSs_weak {X : Cx} {e : List Stmt} {t t' : TS} (h : PSs X e t) (w : ∀ D σ H, t' D σ H → t D σ H) : PSs X e t' := ⟨fun pins s σ H D I q => h.run pins s σ H D I (w D σ H q)⟩

/-- judgements by data -/
abbrev DE (X : Cx) (g : Gh) (W : WX) (e : Expr) (f : ME) : Prop := PE X e (RdE X.K X.mg g W f)
abbrev DA (X : Cx) (g : Gh) (W : WX) (es : List Expr) (f : ML) : Prop := PA X es (RdL X.K X.mg g W f)
abbrev DT (X : Cx) (g : Gh) (W : WX) (e : Expr) (f : MT) : Prop := PT X e (RdT X.K X.mg g W f)
abbrev DW (X : Cx) (g : Gh) (W : WX) (e : Expr) (f : MT) : Prop := PW X e (RdT X.K X.mg g W f)
abbrev DS (X : Cx) (g : Gh) (W : WX) (st : Stmt) (f : MS) : Prop := PS X st (RdS X.K X.mg g W f)
abbrev DSs (X : Cx) (g : Gh) (W : WX) (st : List Stmt) (f : MS) : Prop := PSs X st (RdS X.K X.mg g W f)

section
variable {K : PySem.W.Frag} {mg : Str → Option Value} {g : Gh} {W : WX} {F0 H0 F H F' H' F1 H1 : Hp} {σ : L2.St} {z z' z1 : Z} {Q Q' : VK}
theorem EL.imp {r : R Z (List D)} {Q Q' : List V → Hp → Prop} (h : EL K mg g W F0 H0 σ F H z r Q) (hq : ∀ v H, Q v H → Q' v H) : EL K mg g W F0 H0 σ F H z r Q' := by
  cases r with
  | ok d z => exact fun F' v H' a b => hq _ _ (h F' v H' a b)
  | err c z => exact h
  | stuck => exact h
theorem ET.imp {r : R Z Bool} {Q Q' : Bool → Hp → Prop} (h : ET K mg g W F0 H0 σ F H z r Q) (hq : ∀ v H, Q v H → Q' v H) : ET K mg g W F0 H0 σ F H z r Q' := by
  cases r with
  | ok d z => exact fun F' H' a => hq _ _ (h F' H' a)
  | err c z => exact h
  | stuck => exact h
/-- the answer itself -/
theorem E1.give {d : D} {v : V} (h : E1 K mg g W F0 H0 σ F H z (.ok d z) Q) (n : Now K mg g F0 H0 F H z σ) (r : Rep K mg g F d v) : Q v H := h F v H (Aft.refl n) r
theorem EL.give {d : List D} {v : List V} {Q : List V → Hp → Prop} (h : EL K mg g W F0 H0 σ F H z (.ok d z) Q) (n : Now K mg g F0 H0 F H z σ) (r : Reps K mg g F d v) : Q v H := h F v H (Aft.refl n) r
theorem ET.give {b : Bool} {Q : Bool → Hp → Prop} (h : ET K mg g W F0 H0 σ F H z (.ok b z) Q) (n : Now K mg g F0 H0 F H z σ) : Q b H := h F H (Aft.refl n)
end

/-! ### operations on data -/
def lift (o : Option D) (z : Z) : R Z D := match o with
  | some d => .ok d z
  | none => .stuck
@[simp] theorem lift_some (d : D) (z : Z) : lift (some d) z = .ok d z := rfl
section
variable (K : PySem.W.Frag) (mg : Str → Option Value) (g : Gh)
def Ret (F : Hp) (s : S) (H : Hp) (r : D) (Q : VK) : Prop := ∀ F' v H', Step g F H F' H' → Ok K g F' s H' → Rep K mg g F' r v → Q v H'
def rd1 (h : D → Option D) : V → Hp → VK → Prop := fun x H Q => ∃ F s d r, Ok K g F s H ∧ Rep K mg g F d x ∧ h d = some r ∧ Ret K mg g F s H r Q
def rd2 (h : D → D → Option D) : R2 := fun x y H Q => ∃ F s d e r, Ok K g F s H ∧ Rep K mg g F d x ∧ Rep K mg g F e y ∧ h d e = some r ∧ Ret K mg g F s H r Q
def rdN (h : List D → Option D) : List V → Hp → VK → Prop := fun xs H Q => ∃ F s ds r, Ok K g F s H ∧ Reps K mg g F ds xs ∧ h ds = some r ∧ Ret K mg g F s H r Q
end
section
variable {K : PySem.W.Frag} {mg : Str → Option Value} {g : Gh} {W : WX} {F0 H0 F H F' H' : Hp} {σ : L2.St} {z : Z} {Q : VK} {s : S}
theorem Ret.give {d : D} {v : V} (h : Ret K mg g F s H d Q) (ok : Ok K g F s H) (r : Rep K mg g F d v) : Q v H := h F v H (Step.refl F H) ok r
theorem Ok.newF {p : Addr} {o : HO} (n : Ok K g F s H) (h : H p = none) (ho : ∀ ps, o ≠ .tbl ps) : Step g F H (upd F p o) (upd H p o) ∧ Ok K g (upd F p o) s (upd H p o) := by
  have hF : F p = none := by
    cases q : F p with
    | none => rfl
    | some u => have := n.sub p u q; rw [h] at this; cases this
  have hp : ∀ a, g.a0 = some a → a ≠ p := fun a e => ne_of_none (n.dice a e) h
  refine ⟨⟨fun b u e => by rw [upd_ne (ne_of_none e hF)]; exact e, fun b u e q => ?_, fun b u e _ _ => by rw [upd_ne (ne_of_none e h)]; exact e, fun b e => ?_⟩,
    ⟨fun b u e => ?_, fun b ps e => ?_, tabs_new n.tabs h, fun P hP => gtab_new (n.gtab P hP) h, fun a e => (by rw [upd_ne (hp a e)]; exact n.dF a e), fun a e => (by rw [upd_ne (hp a e)]; exact n.dice a e)⟩⟩
  · by_cases hb : b = p
    · rw [hb]; exact .inl h
    · rw [upd_ne hb, q] at e; cases e
  · by_cases hb : b = p
    · rw [hb, upd_same]; simp
    · rw [upd_ne hb]; exact e
  · by_cases hb : b = p
    · rw [hb, upd_same] at e ⊢; exact e
    · rw [upd_ne hb] at e ⊢; exact n.sub b u e
  · by_cases hb : b = p
    · rw [hb, upd_same] at e; exact ho ps (Option.some.inj e)
    · rw [upd_ne hb] at e; exact n.nota b ps e
/-- a new tuple, a new list -/
theorem Ret.tup {ds : List D} {vs : List V} {p : Addr} (h : Ret K mg g F s H (.tup ds) Q) (ok : Ok K g F s H) (r : Reps K mg g F ds vs) (hp : H p = none) : Q (.ref p) (upd H p (.tup vs)) := by
  obtain ⟨st, ok'⟩ := ok.newF (o := .tup vs) hp (fun ps q => by cases q)
  exact h _ _ _ st ok' ⟨p, vs, rfl, .inl (.inl upd_same), Reps.mono st.sub _ _ r⟩
theorem Ret.lst {ds : List D} {vs : List V} {p : Addr} (h : Ret K mg g F s H (.lst ds) Q) (ok : Ok K g F s H) (r : Reps K mg g F ds vs) (hp : H p = none) : Q (.ref p) (upd H p (.lst vs)) := by
  obtain ⟨st, ok'⟩ := ok.newF (o := .lst vs) hp (fun ps q => by cases q)
  exact h _ _ _ st ok' ⟨p, vs, rfl, upd_same, Reps.mono st.sub _ _ r⟩
theorem E1.ret {r : D} (h : E1 K mg g W F0 H0 σ F H z (.ok r z) Q) (n : Now K mg g F0 H0 F H z σ) : Ret K mg g F z.s H r Q := fun F' v H' st ok rep => h F' v H' (n.aft st ok) rep
end

/-- small numbers: below 2 ^ 8000 in size -/
def Sm (i : Int) : Prop := i.natAbs < 2 ^ 8000
instance (i : Int) : Decidable (Sm i) := inferInstanceAs (Decidable (i.natAbs < 2 ^ 8000))
def smB (i : Int) : Bool := decide (Sm i)
theorem smB_of {i : Int} (h : Sm i) : smB i = true := decide_eq_true (p := Sm i) h
theorem of_smB {i : Int} (h : smB i = true) : Sm i := of_decide_eq_true (p := Sm i) h

/-- factors that can be multiplied -/
def mulB (i j : Int) : Bool := decide (Builtin.Int.intBits i + Builtin.Int.intBits j ≤ 134217728)
theorem mulB_of {i j : Int} {a b : Nat} (ha : i.natAbs < 2 ^ a) (hb : j.natAbs < 2 ^ b) (h : a + b ≤ 134217728) : mulB i j = true := by
  have x := PyProof.Rows.intBits_le ha
  have y := PyProof.Rows.intBits_le hb
  unfold mulB
  exact decide_eq_true (by omega)
theorem mulB_sm {i j : Int} (hi : Sm i) (hj : Sm j) : mulB i j = true := mulB_of hi hj (by decide)
def opAdd : D → D → Option D
  | .int i, .int j => some (.int (i + j))
  | .str x, .str y => if x.length + y.length ≤ 16777216 then some (.str (x ++ y)) else none
  | .lst a, .lst b => if a.length + b.length ≤ 16777216 then some (.lst (a ++ b)) else none
  | .tup a, .tup b => if a.length + b.length ≤ 16777216 then some (.tup (a ++ b)) else none
  | _, _ => none
def opSub : D → D → Option D
  | .int i, .int j => some (.int (i - j))
  | _, _ => none
def opMul : D → D → Option D
  | .int i, .int j => if mulB i j then some (.int (i * j)) else none
  | _, _ => none
def opDiv : D → D → Option D
  | .int i, .int j => if decide (0 < j) && smB j then some (.int (i / j)) else none
  | _, _ => none
def opMod : D → D → Option D
  | .int i, .int j => if decide (0 < j) then some (.int (i % j)) else none
  | _, _ => none
def opLt : D → D → Option D
  | .int i, .int j => some (.bl (decide (i < j)))
  | _, _ => none
def opLe : D → D → Option D
  | .int i, .int j => some (.bl (decide (i ≤ j)))
  | _, _ => none
def opGt : D → D → Option D
  | .int i, .int j => some (.bl (decide (j < i)))
  | _, _ => none
def opGe : D → D → Option D
  | .int i, .int j => some (.bl (decide (j ≤ i)))
  | _, _ => none

mutual
/-- as the library's data -/
def toP : D → Option PyData
  | .non => some .none
  | .bl b => some (.bool b)
  | .int i => some (.int i)
  | .str x => some (.str x)
  | .tup ds => (toPs ds).map .tuple
  | .lst ds => (toPs ds).map .list
  | _ => none
def toPs : List D → Option (List PyData)
  | [] => some []
  | d :: ds => match toP d, toPs ds with
    | some p, some ps => some (p :: ps)
    | _, _ => none
end
def eqD (d e : D) : Option Bool := match toP d, toP e with
  | some p, some q => if SeqAt.shaped p && SeqAt.shaped q then some (PyData.eqv p q) else none
  | _, _ => none
def opEq (d e : D) : Option D := (eqD d e).map D.bl
def opNe (d e : D) : Option D := (eqD d e).map fun b => D.bl (!b)
def memD (d : D) (es : List D) : Option Bool := match toP d, toPs es with
  | some p, some qs => if SeqAt.shaped p && SeqAt.shaped (.list qs) then some (qs.any fun q => PyData.eqv q p) else none
  | _, _ => none
def opIn (d e : D) : Option D := match e with
  | .lst es => (memD d es).map D.bl
  | .str y => match d with
    | .str x => some (.bl (!(Builtin.Str.occurrences y x 0 y.length 1).isEmpty))
    | _ => none
  | _ => none
def opNotIn (d e : D) : Option D := match e with
  | .lst es => (memD d es).map fun b => D.bl (!b)
  | .str y => match d with
    | .str x => some (.bl (!(!(Builtin.Str.occurrences y x 0 y.length 1).isEmpty)))
    | _ => none
  | _ => none
def opIsN (d e : D) : Option D := match e with
  | .non => match d with
    | .non => some (.bl true)
    | _ => some (.bl false)
  | _ => none
def opNotN (d e : D) : Option D := match e with
  | .non => match d with
    | .non => some (.bl false)
    | _ => some (.bl true)
  | _ => none

section
variable {K : PySem.W.Frag} {mg : Str → Option Value} {g : Gh} {H : Hp}
mutual
theorem Rep.dp : ∀ (d : D) (v : V) (p : PyData), Rep K mg g H d v → toP d = some p → Dp K H v p
  | .non, _, _, h, e => by cases h; cases e; exact .non
  | .bl b, _, _, h, e => by cases h; cases e; exact .bl b
  | .int i, _, _, h, e => by cases h; cases e; exact .int i
  | .str x, _, _, h, e => by cases h; cases e; exact .str x
  | .tup ds, _, _, ⟨a, vs, e1, h2, h3⟩, e => by
    subst e1
    cases q : toPs ds with
    | none => simp [toP, q] at e
    | some ps =>
      simp [toP, q] at e
      subst e
      exact .tup h2 (Reps.dp ds vs ps h3 q)
  | .lst ds, _, _, ⟨a, vs, e1, h2, h3⟩, e => by
    subst e1
    cases q : toPs ds with
    | none => simp [toP, q] at e
    | some ps =>
      simp [toP, q] at e
      subst e
      exact .lst (.inl (.inl h2)) (Reps.dp ds vs ps h3 q)
  | .ins _ _ _, _, _, _, e => by simp [toP] at e
  | .dT _ _, _, _, _, e => by simp [toP] at e
  | .dK _ _, _, _, _, e => by simp [toP] at e
  | .dice, _, _, _, e => by simp [toP] at e
  | .scr _, _, _, _, e => by simp [toP] at e
  | .lam _, _, _, _, e => by simp [toP] at e
theorem Reps.dp : ∀ (ds : List D) (vs : List V) (ps : List PyData), Reps K mg g H ds vs → toPs ds = some ps → DpAll K H vs ps
  | [], _, _, h, e => by cases h; cases e; exact .nil
  | d :: ds, _, _, ⟨v, r, e1, h2, h3⟩, e => by
    subst e1
    cases q : toP d with
    | none => simp [toPs, q] at e
    | some p =>
      cases q2 : toPs ds with
      | none => simp [toPs, q, q2] at e
      | some ps =>
        simp [toPs, q, q2] at e
        subst e
        exact .cons (Rep.dp d v p h2 q) (Reps.dp ds r ps h3 q2)
end
end

section
variable {X : Cx} {g : Gh}
theorem line_eq : (sizeLine : Nat) = 16777216 := sizeLine_eq
theorem od_add : OpR X (binaryOp .Add) (rd2 X.K X.mg g opAdd) := by
  intro pins s σ H x y v u Q I rx ry h
  obtain ⟨F, t, d, e, r, ok, h1, h2, hr, q⟩ := h
  cases d <;> cases e <;> simp only [opAdd] at hr <;> try (cases hr; done)
  · cases h1; cases h2; cases hr
    exact op_add pins s σ H _ _ v u Q I rx ry ⟨_, _, rfl, rfl, q.give ok rfl⟩
  · split at hr
    · cases h1; cases h2; cases hr
      rename_i hl
      exact op_add_str pins s σ H _ _ v u Q I rx ry ⟨_, _, rfl, rfl, by rw [line_eq]; exact hl, q.give ok rfl⟩
    · cases hr
  · split at hr
    · rename_i hl
      cases hr
      obtain ⟨a, vs, rfl, a2, a3⟩ := h1
      obtain ⟨b, ws, rfl, b2, b3⟩ := h2
      have e1 := a3.len
      have e2 := b3.len
      refine op_catA pins s σ H _ _ v u Q I rx ry ⟨a, b, vs, ws, rfl, rfl, ok.sub.sqT a2, ok.sub.sqT b2, by rw [line_eq]; omega, fun z => ?_, fun _ z => ?_, fun _ _ p hp => q.tup ok (a3.append b3) hp⟩
      · subst z
        exact q.give ok ⟨b, ws, rfl, b2, a3.append b3⟩
      · subst z
        exact q.give ok ⟨a, vs, rfl, a2, by have := a3.append b3; rwa [List.append_nil] at this⟩
    · cases hr
  · split at hr
    · rename_i hl
      cases hr
      obtain ⟨a, vs, rfl, a2, a3⟩ := h1
      obtain ⟨b, ws, rfl, b2, b3⟩ := h2
      have e1 := a3.len
      have e2 := b3.len
      exact op_cat pins s σ H _ _ v u Q I rx ry ⟨a, b, vs, ws, rfl, rfl, ok.sub _ _ a2, ok.sub _ _ b2, by rw [line_eq]; omega, fun p hp => q.lst ok (a3.append b3) hp⟩
    · cases hr

theorem od_sub : OpR X (binaryOp .Sub) (rd2 X.K X.mg g opSub) := by
  intro pins s σ H x y v u Q I rx ry h
  obtain ⟨F, t, d, e, r, ok, h1, h2, hr, q⟩ := h
  cases d <;> cases e <;> simp only [opSub] at hr <;> try (cases hr; done)
  cases h1; cases h2; cases hr
  exact op_sub pins s σ H _ _ v u Q I rx ry ⟨_, _, rfl, rfl, q.give ok rfl⟩
theorem sm_pow (n : Nat) (h : n < 2 ^ 8000) : n.log2 < 8000 := PySem.Flt.log2_lt_of (by decide) h
theorem od_mul : OpR X (binaryOp .Mult) (rd2 X.K X.mg g opMul) := by
  intro pins s σ H x y v u Q I rx ry h
  obtain ⟨F, t, d, e, r, ok, h1, h2, hr, q⟩ := h
  cases d <;> cases e <;> simp only [opMul] at hr <;> try (cases hr; done)
  split at hr
  · rename_i hl
    cases h1; cases h2; cases hr
    have hm : Builtin.Int.intBits _ + Builtin.Int.intBits _ ≤ 134217728 := of_decide_eq_true hl
    exact op_mulX pins s σ H _ _ v u Q I rx ry ⟨_, _, rfl, rfl, by unfold CMulX; omega, q.give ok rfl⟩
  · cases hr
theorem od_div : OpR X (binaryOp .FloorDiv) (rd2 X.K X.mg g opDiv) := by
  intro pins s σ H x y v u Q I rx ry h
  obtain ⟨F, t, d, e, r, ok, h1, h2, hr, q⟩ := h
  cases d <;> cases e <;> simp only [opDiv] at hr <;> try (cases hr; done)
  split at hr
  · rename_i hl
    cases h1; cases h2; cases hr
    rw [Bool.and_eq_true] at hl
    have k2 := sm_pow _ (of_smB hl.2)
    exact op_fdivW pins s σ H _ _ v u Q I rx ry ⟨_, _, rfl, rfl, ⟨of_decide_eq_true hl.1, by omega⟩, q.give ok rfl⟩
  · cases hr
theorem od_mod : OpR X (binaryOp .Mod) (rd2 X.K X.mg g opMod) := by
  intro pins s σ H x y v u Q I rx ry h
  obtain ⟨F, t, d, e, r, ok, h1, h2, hr, q⟩ := h
  cases d <;> cases e <;> simp only [opMod] at hr <;> try (cases hr; done)
  split at hr
  · rename_i hl
    cases h1; cases h2; cases hr
    exact op_mod pins s σ H _ _ v u Q I rx ry ⟨_, _, rfl, rfl, of_decide_eq_true hl, q.give ok rfl⟩
  · cases hr
theorem od_lt : OpR X (compareOp .Lt) (rd2 X.K X.mg g opLt) := by
  intro pins s σ H x y v u Q I rx ry h
  obtain ⟨F, t, d, e, r, ok, h1, h2, hr, q⟩ := h
  cases d <;> cases e <;> simp only [opLt] at hr <;> try (cases hr; done)
  cases h1; cases h2; cases hr
  exact op_lt pins s σ H _ _ v u Q I rx ry ⟨_, _, rfl, rfl, q.give ok rfl⟩
theorem od_le : OpR X (compareOp .LtE) (rd2 X.K X.mg g opLe) := by
  intro pins s σ H x y v u Q I rx ry h
  obtain ⟨F, t, d, e, r, ok, h1, h2, hr, q⟩ := h
  cases d <;> cases e <;> simp only [opLe] at hr <;> try (cases hr; done)
  cases h1; cases h2; cases hr
  exact op_le pins s σ H _ _ v u Q I rx ry ⟨_, _, rfl, rfl, q.give ok rfl⟩
theorem od_gt : OpR X (compareOp .Gt) (rd2 X.K X.mg g opGt) := by
  intro pins s σ H x y v u Q I rx ry h
  obtain ⟨F, t, d, e, r, ok, h1, h2, hr, q⟩ := h
  cases d <;> cases e <;> simp only [opGt] at hr <;> try (cases hr; done)
  cases h1; cases h2; cases hr
  exact op_gt pins s σ H _ _ v u Q I rx ry ⟨_, _, rfl, rfl, q.give ok rfl⟩
theorem od_ge : OpR X (compareOp .GtE) (rd2 X.K X.mg g opGe) := by
  intro pins s σ H x y v u Q I rx ry h
  obtain ⟨F, t, d, e, r, ok, h1, h2, hr, q⟩ := h
  cases d <;> cases e <;> simp only [opGe] at hr <;> try (cases hr; done)
  cases h1; cases h2; cases hr
  exact op_ge pins s σ H _ _ v u Q I rx ry ⟨_, _, rfl, rfl, q.give ok rfl⟩
theorem eqD_some {d e : D} {b : Bool} (h : eqD d e = some b) : ∃ p q, toP d = some p ∧ toP e = some q ∧ SeqAt.shaped p = true ∧ SeqAt.shaped q = true ∧ b = PyData.eqv p q := by
  unfold eqD at h
  split at h
  · rename_i p q e1 e2
    split at h
    · rename_i hs
      rw [Bool.and_eq_true] at hs
      exact ⟨p, q, e1, e2, hs.1, hs.2, (Option.some.inj h).symm⟩
    · cases h
  · cases h
theorem od_eq (hu : X.A.units + 64 < cLine) : OpR X (compareOp .Eq) (rd2 X.K X.mg g opEq) := by
  intro pins s σ H x y v u Q I rx ry h
  obtain ⟨F, t, d, e, r, ok, h1, h2, hr, q⟩ := h
  unfold opEq at hr
  cases z : eqD d e with
  | none => rw [z] at hr; cases hr
  | some b =>
    rw [z] at hr; cases hr
    obtain ⟨p, p', e1, e2, s1, s2, rfl⟩ := eqD_some z
    exact op_eqD hu pins s σ H _ _ v u Q I rx ry ⟨p, p', Rep.dp d x p (Rep.mono ok.sub _ _ h1) e1, Rep.dp e y p' (Rep.mono ok.sub _ _ h2) e2, s1, s2, q.give ok rfl⟩
theorem od_ne (hu : X.A.units + 64 < cLine) : OpR X (compareOp .NotEq) (rd2 X.K X.mg g opNe) := by
  intro pins s σ H x y v u Q I rx ry h
  obtain ⟨F, t, d, e, r, ok, h1, h2, hr, q⟩ := h
  unfold opNe at hr
  cases z : eqD d e with
  | none => rw [z] at hr; cases hr
  | some b =>
    rw [z] at hr; cases hr
    obtain ⟨p, p', e1, e2, s1, s2, rfl⟩ := eqD_some z
    exact op_neD hu pins s σ H _ _ v u Q I rx ry ⟨p, p', Rep.dp d x p (Rep.mono ok.sub _ _ h1) e1, Rep.dp e y p' (Rep.mono ok.sub _ _ h2) e2, s1, s2, q.give ok rfl⟩
theorem memD_some {d : D} {es : List D} {b : Bool} (h : memD d es = some b) : ∃ p qs, toP d = some p ∧ toP (.lst es) = some (.list qs) ∧ SeqAt.shaped p = true ∧ SeqAt.shaped (.list qs) = true ∧ b = qs.any fun q => PyData.eqv q p := by
  unfold memD at h
  split at h
  · rename_i p qs e1 e2
    split at h
    · rename_i hs
      rw [Bool.and_eq_true] at hs
      exact ⟨p, qs, e1, by simp [toP, e2], hs.1, hs.2, (Option.some.inj h).symm⟩
    · cases h
  · cases h
theorem od_in (hu : X.A.units + 65 < cLine) : OpR X (compareOp .In) (rd2 X.K X.mg g opIn) := by
  intro pins s σ H x y v u Q I rx ry h
  obtain ⟨F, t, d, e, r, ok, h1, h2, hr, q⟩ := h
  cases e <;> simp only [opIn] at hr <;> try (cases hr; done)
  · cases d <;> simp only at hr <;> try (cases hr; done)
    cases h1; cases h2; cases hr
    exact op_in_str pins s σ H _ _ v u Q I rx ry ⟨_, _, rfl, rfl, q.give ok rfl⟩
  · rename_i es
    cases z : memD d es with
    | none => rw [z] at hr; cases hr
    | some b =>
      rw [z] at hr; cases hr
      obtain ⟨p, qs, e1, e2, s1, s2, rfl⟩ := memD_some z
      exact op_inD hu pins s σ H _ _ v u Q I rx ry ⟨p, qs, Rep.dp d x p (Rep.mono ok.sub _ _ h1) e1, Rep.dp _ y _ (Rep.mono ok.sub _ _ h2) e2, s1, s2, q.give ok rfl⟩
theorem od_notIn (hu : X.A.units + 65 < cLine) : OpR X (compareOp .NotIn) (rd2 X.K X.mg g opNotIn) := by
  intro pins s σ H x y v u Q I rx ry h
  obtain ⟨F, t, d, e, r, ok, h1, h2, hr, q⟩ := h
  cases e <;> simp only [opNotIn] at hr <;> try (cases hr; done)
  · cases d <;> simp only at hr <;> try (cases hr; done)
    cases h1; cases h2; cases hr
    exact L2.op_notIn_str pins s σ H _ _ v u Q I rx ry ⟨_, _, rfl, rfl, q.give ok rfl⟩
  · rename_i es
    cases z : memD d es with
    | none => rw [z] at hr; cases hr
    | some b =>
      rw [z] at hr; cases hr
      obtain ⟨p, qs, e1, e2, s1, s2, rfl⟩ := memD_some z
      exact op_notInD hu pins s σ H _ _ v u Q I rx ry ⟨p, qs, Rep.dp d x p (Rep.mono ok.sub _ _ h1) e1, Rep.dp _ y _ (Rep.mono ok.sub _ _ h2) e2, s1, s2, q.give ok rfl⟩
theorem rep_non {g : Gh} {K : PySem.W.Frag} {mg : Str → Option Value} {F : Hp} {d : D} {x : V} (h : Rep K mg g F d x) : decide (x = .non) = match d with
  | .non => true
  | _ => false := by
  cases d
  case non => cases h; rfl
  case bl b => cases h; rfl
  case int b => cases h; rfl
  case str b => cases h; rfl
  case tup b => obtain ⟨a, vs, rfl, _⟩ := h; rfl
  case lst b => obtain ⟨a, vs, rfl, _⟩ := h; rfl
  case ins b c e => obtain ⟨a, vs, _, _, rfl, _⟩ := h; rfl
  case dT b c => obtain ⟨a, vs, rfl, _⟩ := h; rfl
  case dK b c => obtain ⟨a, vs, rfl, _⟩ := h; rfl
  case dice => obtain ⟨a, _, rfl⟩ := h; rfl
  case scr b => obtain ⟨a, vs, rfl, _⟩ := h; rfl
  case lam b => obtain ⟨f, c', i, rfl, _⟩ := h; rfl
theorem od_isN : OpR X (compareOp .Is) (rd2 X.K X.mg g opIsN) := by
  intro pins s σ H x y v u Q I rx ry h
  obtain ⟨F, t, d, e, r, ok, h1, h2, hr, q⟩ := h
  cases e <;> simp only [opIsN] at hr <;> try (cases hr; done)
  cases h2
  refine op_isN pins s σ H _ _ v u Q I rx ry ⟨rfl, ?_⟩
  rw [rep_non h1]
  cases d <;> (cases hr; exact q.give ok rfl)
theorem od_notN : OpR X (compareOp .IsNot) (rd2 X.K X.mg g opNotN) := by
  intro pins s σ H x y v u Q I rx ry h
  obtain ⟨F, t, d, e, r, ok, h1, h2, hr, q⟩ := h
  cases e <;> simp only [opNotN] at hr <;> try (cases hr; done)
  cases h2
  refine op_notN pins s σ H _ _ v u Q I rx ry ⟨rfl, ?_⟩
  rw [rep_non h1]
  cases d <;> (cases hr; exact q.give ok rfl)
end
end DL

set_option Elab.async false
set_option linter.all false
set_option maxRecDepth 100000
set_option autoImplicit false
/-! DL3: the expressions' rules. -/
namespace DL
open PySem PySem.Spec PyProof.Rows L2

section
variable {X : Cx} {g : Gh} {W : WX} {pos : Pos}
/-! ### names, constants -/
def evVar (i : Nat) : ME := fun z => match z.ρ[i]? with
  | some (.d d) => .ok d z
  | some (.own ds) => .ok (.lst ds) ⟨z.ρ.set i (.d (.lst ds)), z.s⟩
  | _ => .stuck
theorem de_var {i : Nat} {x : Str} (hN : X.N[i]? = some x) (hv : Vis X.env.scope x) (hd : (x == ("__debug__" : Str)) = false := by decide) (hcd : (x == ("__classdict__" : Str)) = false := by decide) : DE X g W (.Name x pos) (evVar i) := by
  refine PE_weak (pe_var hN hv hd hcd) fun σ H Q h => ?_
  obtain ⟨F0, H0, F, z, n, h⟩ := h
  unfold evVar at h
  split at h
  · rename_i d e
    obtain ⟨v, ev, r⟩ := n.sl.at_ i _ e
    exact ⟨v, ev, h.give n r⟩
  · rename_i ds e
    obtain ⟨a, vs, ev, h1, h2, h3, h4, h5⟩ := n.sl.at_ i _ e
    have hi : i < z.ρ.length := (List.getElem?_eq_some_iff.mp e).1
    have hFa : Sub F (upd F a (.lst vs)) := fun b u e => by rw [upd_ne (ne_of_none e h2)]; exact e
    have rr : Rep X.K X.mg g (upd F a (.lst vs)) (.lst ds) (.ref a) := ⟨a, vs, rfl, upd_same, Reps.mono hFa _ _ h5⟩
    obtain ⟨fz, _, fo⟩ := n.freeze (ρ' := z.ρ.set i (.d (.lst ds))) h1 h2 h3 h4 (by simp) (fun j x ej => by
      by_cases hj : j = i
      · subst hj
        rw [List.getElem?_set_self hi] at ej
        cases ej
        exact .inr ⟨_, rfl, .ref a, ev, rr⟩
      · rw [List.getElem?_set_ne (Ne.symm hj)] at ej
        refine .inl ⟨ej, fun es ex q => hj ?_⟩
        subst ex
        exact n.sl.dis j i es ds ej e (q.trans ev.symm))
    exact ⟨.ref a, ev, h _ _ _ ⟨fz, hFa, Keep.refl H, fo, fun _ q => q, fun b o e1 e2 => by
      by_cases hb : b = a
      · exact .inr (.inl ⟨i, ds, e, by rw [hb]; exact ev⟩)
      · rw [upd_ne hb, e2] at e1; cases e1⟩ rr⟩
  · exact h.elim
def evC (d : D) : ME := fun z => .ok d z
theorem de_int {i j} : DE X g W (.Constant (.int i) j pos) (evC (.int i)) := PE_weak pe_int fun σ H Q ⟨F0, H0, F, z, n, h⟩ => h.give n rfl
theorem de_str {i j} : DE X g W (.Constant (.str i) j pos) (evC (.str i)) := PE_weak pe_str fun σ H Q ⟨F0, H0, F, z, n, h⟩ => h.give n rfl
theorem de_bl {i j} : DE X g W (.Constant (.bool i) j pos) (evC (.bl i)) := PE_weak pe_bl fun σ H Q ⟨F0, H0, F, z, n, h⟩ => h.give n rfl
theorem de_non {j} : DE X g W (.Constant .none j pos) (evC .non) := PE_weak pe_non fun σ H Q ⟨F0, H0, F, z, n, h⟩ => h.give n rfl

/-! ### lists of expressions, displays -/
def evNil : ML := fun z => .ok [] z
def evCons (fa : ME) (fl : ML) : ML := fun z => (fa z).bind fun d z1 => (fl z1).bind fun ds z2 => .ok (d :: ds) z2
theorem da_nil : DA X g W [] evNil := PA_weak pa_nil fun σ H Q ⟨F0, H0, F, z, n, h⟩ => h.give n rfl
theorem da_cons {e : Expr} {es : List Expr} {fa : ME} {fl : ML} (ha : DE X g W e fa) (hr : DA X g W es fl) (hs : starEach (e :: es) X.env = (false, eval e X.env) :: starEach es X.env := by rfl) : DA X g W (e :: es) (evCons fa fl) := by
  refine PA_weak (pa_cons ha hr hs) fun σ H Q ⟨F0, H0, F, z, n, h⟩ => ⟨F0, H0, F, z, n, (E1.bindL h).imp fun v H1 ⟨d, z1, F1, a1, r1, _, h1⟩ => ⟨F0, H0, F1, z1, a1.now, (EL.bindL h1).imp fun vs H2 ⟨ds, z2, F2, a2, r2, _, h2⟩ => ?_⟩⟩
  exact h2.give a2.now (r2.cons (Rep.mono a2.sub _ _ r1))
def evTup (fl : ML) : ME := fun z => (fl z).bind fun ds z1 => if ds.length ≤ 16777216 then .ok (.tup ds) z1 else .stuck
theorem de_tup {es : List Expr} {k : Nat} {fl : ML} (h : DA X g W es fl) : DE X g W (.Tuple es k pos) (evTup fl) := by
  refine PE_weak (pe_tup h) fun σ H Q ⟨F0, H0, F, z, n, h⟩ => ⟨F0, H0, F, z, n, (EL.bindE h).imp fun vs H1 ⟨ds, z1, F1, a1, r1, _, h1⟩ => ?_⟩
  split at h1
  · rename_i hl
    exact ⟨by rw [line_eq, r1.len]; exact hl, fun p hp => (E1.ret h1 a1.now).tup a1.now.ok r1 hp⟩
  · exact h1.elim
end
/-- what a new list's address must be -/
structure Fre (g : Gh) (F H0 : Hp) (σ : L2.St) (z : Z) (a : Addr) : Prop where
  nF : F a = none
  n0 : H0 a = none
  nd : g.a0 ≠ some a
  ns : ∀ (j : Nat) (es : List D), z.ρ[j]? = some (.own es) → σ[j]? ≠ some (some (.ref a))
section
variable (K : PySem.W.Frag) (mg : Str → Option Value) (g : Gh) (W : WX)
/-- a new list, not yet anyone's -/
def EN (F0 H0 : Hp) (σ : L2.St) (F H : Hp) (z : Z) (r : R Z (List D)) (Q : VK) : Prop := match r with
  | .ok ds z' => ∀ F' a vs H', Aft K mg g F0 H0 F H z F' H' z' σ → H' a = some (.lst vs) → H a = none → Fre g F' H0 σ z' a → Reps K mg g F' ds vs → Q (.ref a) H'
  | .err c z' => EErr K mg g W F0 H0 σ F H z c z'
  | .stuck => False
def RdN (f : ML) : TE := fun σ H Q => ∃ F0 H0 F z, Now K mg g F0 H0 F H z σ ∧ EN K mg g W F0 H0 σ F H z (f z) Q
end
/-- an expression that makes a new list -/
abbrev DN (X : Cx) (g : Gh) (W : WX) (e : Expr) (f : ML) : Prop := PE X e (RdN X.K X.mg g W f)
section
variable {K : PySem.W.Frag} {mg : Str → Option Value} {g : Gh} {W : WX} {F0 H0 F H F' H' F1 H1 : Hp} {σ : L2.St} {z z' z1 : Z} {Q Q' : VK}
theorem EN.from {r : R Z (List D)} (a : Aft K mg g F0 H0 F H z F1 H1 z1 σ) (h : EN K mg g W F0 H0 σ F H z r Q) : EN K mg g W F0 H0 σ F1 H1 z1 r Q := by
  cases r with
  | ok d z2 =>
    refine fun F' p v H' b e1 e3 e2 r => h F' p v H' (a.trans b) e1 ?_ e2 r
    cases q : H p with
    | none => rfl
    | some u => exact absurd e3 (a.there p (by rw [q]; simp))
  | err c z => exact fun F' H' C b e => h F' H' C (a.trans b) e
  | stuck => exact h
theorem EL.bindN {r : R Z (List D)} {f : List D → Z → R Z (List D)} (h : EN K mg g W F0 H0 σ F H z (r.bind f) Q) :
    EL K mg g W F0 H0 σ F H z r fun v H1 => ∃ d z1 F1, Aft K mg g F0 H0 F H z F1 H1 z1 σ ∧ Reps K mg g F1 d v ∧ r = .ok d z1 ∧ EN K mg g W F0 H0 σ F1 H1 z1 (f d z1) Q := by
  cases r with
  | ok d z => exact fun F' v H' a b => ⟨d, z, F', a, b, rfl, EN.from a h⟩
  | err c z => exact h
  | stuck => exact h
theorem E1.bindN {r : R Z D} {f : D → Z → R Z (List D)} (h : EN K mg g W F0 H0 σ F H z (r.bind f) Q) :
    E1 K mg g W F0 H0 σ F H z r fun v H1 => ∃ d z1 F1, Aft K mg g F0 H0 F H z F1 H1 z1 σ ∧ Rep K mg g F1 d v ∧ r = .ok d z1 ∧ EN K mg g W F0 H0 σ F1 H1 z1 (f d z1) Q := by
  cases r with
  | ok d z => exact fun F' v H' a b => ⟨d, z, F', a, b, rfl, EN.from a h⟩
  | err c z => exact h
  | stuck => exact h
theorem Now.fre {p : Addr} {o : HO} (n : Now K mg g F0 H0 F H z σ) (h : H p = none) : Fre g F H0 σ z p := by
  obtain ⟨_, h1, h2, h3⟩ := n.newO (o := o) h
  refine ⟨h1, h2, h3, fun j es e q => ?_⟩
  obtain ⟨a, vs, e1, e2, _⟩ := n.sl.at_ j _ e
  rw [q] at e1; cases e1
  rw [h] at e2; cases e2
theorem EN.mk {ds : List D} {vs : List V} {p : Addr} (h : EN K mg g W F0 H0 σ F H z (.ok ds z) Q) (n : Now K mg g F0 H0 F H z σ) (hp : H p = none) (r : Reps K mg g F ds vs) : Q (.ref p) (upd H p (.lst vs)) :=
  h F p vs _ (n.newO hp).1 upd_same hp (n.fre (o := .lst vs) hp) r
/-- it is frozen -/
theorem EN.frz {r : R Z (List D)} (h : E1 K mg g W F0 H0 σ F H z (r.bind fun ds z1 => .ok (.lst ds) z1) Q) : EN K mg g W F0 H0 σ F H z r Q := by
  cases r with
  | ok ds z =>
    intro F' a vs H' af e1 e0 fr rr
    have sub : Sub F' (upd F' a (.lst vs)) := fun b u e => by rw [upd_ne (ne_of_none e fr.nF)]; exact e
    obtain ⟨fz, _, fo⟩ := af.now.freeze (ρ' := z.ρ) e1 fr.nF fr.n0 fr.nd rfl (fun i x e => .inl ⟨e, fun es ex q => fr.ns i es (ex ▸ e) q⟩)
    exact h _ _ _ ⟨fz, af.sub.trans sub, af.keep, fun j es q => af.own j es (fo j es q), af.there, fun b o e2 e3 => by
      by_cases hb : b = a
      · exact .inl (by rw [hb]; exact e0)
      · rw [upd_ne hb] at e2; exact af.fz b o e2 e3⟩ ⟨a, vs, rfl, upd_same, Reps.mono sub _ _ rr⟩
  | err c z => exact h
  | stuck => exact h
end
section
variable {X : Cx} {g : Gh} {W : WX} {pos : Pos} {a b c : Expr} {fa fb fc : ME} {fl : ML}
def evFrz (fl : ML) : ME := fun z => (fl z).bind fun ds z1 => .ok (.lst ds) z1
theorem de_new {e : Expr} (h : DN X g W e fl) : DE X g W e (evFrz fl) := PE_weak h fun σ H Q ⟨F0, H0, F, z, n, h⟩ => ⟨F0, H0, F, z, n, EN.frz h⟩
def evLst (fl : ML) : ML := fun z => (fl z).bind fun ds z1 => if ds.length ≤ 16777216 then .ok ds z1 else .stuck
theorem dn_lst {es : List Expr} (h : DA X g W es fl) : DN X g W (.List es pos) (evLst fl) := by
  refine PE_weak (pe_lst h) fun σ H Q ⟨F0, H0, F, z, n, h⟩ => ⟨F0, H0, F, z, n, (EL.bindN h).imp fun vs H1 ⟨ds, z1, F1, a1, r1, _, h1⟩ => ?_⟩
  split at h1
  · rename_i hl
    exact ⟨by rw [line_eq, r1.len]; exact hl, fun p hp => EN.mk h1 a1.now hp r1⟩
  · exact h1.elim

/-! ### operators -/
def ev1 (h : D → Option D) (fa : ME) : ME := fun z => (fa z).bind fun d z1 => lift (h d) z1
def ev2 (h : D → D → Option D) (fa fb : ME) : ME := fun z => (fa z).bind fun d z1 => (fb z1).bind fun e z2 => lift (h d e) z2
theorem use2 {K : PySem.W.Frag} {mg : Str → Option Value} {F0 H0 F H : Hp} {σ : L2.St} {z : Z} {Q : VK} {h : D → D → Option D} {d e : D} {x y : V} (n : Now K mg g F0 H0 F H z σ) (r1 : Rep K mg g F d x) (r2 : Rep K mg g F e y)
    (q : E1 K mg g W F0 H0 σ F H z (lift (h d e) z) Q) : rd2 K mg g h x y H Q := by
  unfold lift at q
  split at q
  · rename_i r er
    exact ⟨F, z.s, d, e, r, n.ok, r1, r2, er, E1.ret q n⟩
  · exact q.elim
theorem use1 {K : PySem.W.Frag} {mg : Str → Option Value} {F0 H0 F H : Hp} {σ : L2.St} {z : Z} {Q : VK} {h : D → Option D} {d : D} {x : V} (n : Now K mg g F0 H0 F H z σ) (r1 : Rep K mg g F d x)
    (q : E1 K mg g W F0 H0 σ F H z (lift (h d) z) Q) : rd1 K mg g h x H Q := by
  unfold lift at q
  split at q
  · rename_i r er
    exact ⟨F, z.s, d, r, n.ok, r1, er, E1.ret q n⟩
  · exact q.elim
theorem useN {K : PySem.W.Frag} {mg : Str → Option Value} {F0 H0 F H : Hp} {σ : L2.St} {z : Z} {Q : VK} {h : List D → Option D} {d : List D} {x : List V} (n : Now K mg g F0 H0 F H z σ) (r1 : Reps K mg g F d x)
    (q : E1 K mg g W F0 H0 σ F H z (lift (h d) z) Q) : rdN K mg g h x H Q := by
  unfold lift at q
  split at q
  · rename_i r er
    exact ⟨F, z.s, d, r, n.ok, r1, er, E1.ret q n⟩
  · exact q.elim
theorem go2 {h : D → D → Option D} {σ : L2.St} {H : Hp} {Q : VK} (q : RdE X.K X.mg g W (ev2 h fa fb) σ H Q) : tOp (rd2 X.K X.mg g h) (RdE X.K X.mg g W fa) (RdE X.K X.mg g W fb) σ H Q := by
  obtain ⟨F0, H0, F, z, n, q⟩ := q
  refine ⟨F0, H0, F, z, n, (E1.bindE q).imp fun v H1 ⟨d, z1, F1, a1, r1, _, h1⟩ => ⟨F0, H0, F1, z1, a1.now, (E1.bindE h1).imp fun w H2 ⟨e, z2, F2, a2, r2, _, h2⟩ => ?_⟩⟩
  exact use2 a2.now (Rep.mono a2.sub _ _ r1) r2 h2
theorem de_bin {op : Operator} {h : D → D → Option D} (ho : OpR X (binaryOp op) (rd2 X.K X.mg g h)) (ha : DE X g W a fa) (hb : DE X g W b fb) : DE X g W (.BinOp a op b pos) (ev2 h fa fb) :=
  PE_weak (pe_op ho ha hb) fun σ H Q q => go2 q
theorem de_cmp {op : CmpOp} {h : D → D → Option D} (ho : OpR X (compareOp op) (rd2 X.K X.mg g h)) (ha : DE X g W a fa) (hb : DE X g W b fb) (hm : behindInMarks op b = false) : DE X g W (.Compare a [op] [b] pos) (ev2 h fa fb) :=
  PE_weak (pe_cmpR ho ha hb hm) fun σ H Q q => go2 q
/-- a value that is a bool, as a test -/
def tB1 (f : ME) : MT := fun z => (f z).bind fun d z1 => match d with
  | .bl b => .ok b z1
  | _ => .stuck
theorem useT {K : PySem.W.Frag} {mg : Str → Option Value} {F0 H0 F H : Hp} {σ : L2.St} {z : Z} {Q : Bool → Hp → Prop} {r : R Z D} (q : ET K mg g W F0 H0 σ F H z (r.bind fun d z1 => match d with
  | .bl b => .ok b z1
  | _ => .stuck) Q) : E1 K mg g W F0 H0 σ F H z r fun x H' => ∃ k, x = .bl k ∧ Q k H' := by
  refine (E1.bindT q).imp fun v H1 ⟨d, z1, F1, a1, r1, _, h1⟩ => ?_
  split at h1
  · cases r1
    exact ⟨_, rfl, h1.give a1.now⟩
  · exact h1.elim
theorem dt_cmp {op : CmpOp} {h : D → D → Option D} (ho : OpR X (compareOp op) (rd2 X.K X.mg g h)) (ha : DE X g W a fa) (hb : DE X g W b fb) (hm : behindInMarks op b = false) : DT X g W (.Compare a [op] [b] pos) (tB1 (ev2 h fa fb)) := by
  refine PT_weak (pt_cmpR ho ha hb hm) fun σ H Q ⟨F0, H0, F, z, n, q⟩ => ?_
  show tOp (rd2 X.K X.mg g h) (RdE X.K X.mg g W fa) (RdE X.K X.mg g W fb) σ H _
  exact go2 ⟨F0, H0, F, z, n, useT q⟩
def evNeg : D → Option D
  | .int i => some (.int (-i))
  | _ => none
theorem de_neg (ha : DE X g W a fa) : DE X g W (.UnaryOp .USub a pos) (ev1 evNeg fa) := by
  refine PE_weak (pe_un un_neg ha) fun σ H Q ⟨F0, H0, F, z, n, q⟩ => ⟨F0, H0, F, z, n, (E1.bindE q).imp fun v H1 ⟨d, z1, F1, a1, r1, _, h1⟩ => ?_⟩
  cases d <;> simp only [evNeg] at h1 <;> try exact h1.elim
  cases r1
  exact ⟨_, rfl, h1.give a1.now rfl⟩
/-- a < b < c -/
def ev3 (h h' : D → D → Option D) (fa fb fc : ME) : ME := fun z => (fa z).bind fun d z1 => (fb z1).bind fun e z2 => (lift (h d e) z2).bind fun k z3 => match k with
  | .bl true => (fc z3).bind fun e' z4 => lift (h' e e') z4
  | .bl false => .ok (.bl false) z3
  | _ => .stuck
theorem go3 {h h' : D → D → Option D} {σ : L2.St} {H : Hp} {Q : VK} (q : RdE X.K X.mg g W (ev3 h h' fa fb fc) σ H Q) : tChain (rd2 X.K X.mg g h) (rd2 X.K X.mg g h') (RdE X.K X.mg g W fa) (RdE X.K X.mg g W fb) (RdE X.K X.mg g W fc) σ H Q := by
  obtain ⟨F0, H0, F, z, n, q⟩ := q
  refine ⟨F0, H0, F, z, n, (E1.bindE q).imp fun v H1 ⟨d, z1, F1, a1, r1, _, h1⟩ => ⟨F0, H0, F1, z1, a1.now, (E1.bindE h1).imp fun w H2 ⟨e, z2, F2, a2, r2, _, h2⟩ => ?_⟩⟩
  refine use2 (W := W) a2.now (Rep.mono a2.sub _ _ r1) r2 ((E1.bindE h2).imp fun u H3 ⟨k, z3, F3, a3, r3, _, h3⟩ => ?_)
  split at h3
  · cases r3
    refine ⟨true, rfl, ?_⟩
    rw [if_pos rfl]
    refine ⟨F0, H0, F3, z3, a3.now, (E1.bindE h3).imp fun w' H4 ⟨e', z4, F4, a4, r4, _, h4⟩ => ?_⟩
    exact use2 a4.now (Rep.mono (a3.sub.trans a4.sub) _ _ r2) r4 h4
  · cases r3
    refine ⟨false, rfl, ?_⟩
    rw [if_neg Bool.false_ne_true]
    exact h3.give a3.now rfl
  · exact h3.elim
theorem de_chain {op op' : CmpOp} {h h' : D → D → Option D} (ho : OpR X (compareOp op) (rd2 X.K X.mg g h)) (ho' : OpR X (compareOp op') (rd2 X.K X.mg g h')) (ha : DE X g W a fa) (hb : DE X g W b fb) (hc : DE X g W c fc)
    (hm : lastMarks [op, op'] [b, c] = false := by with_unfolding_all rfl) : DE X g W (.Compare a [op, op'] [b, c] pos) (ev3 h h' fa fb fc) := PE_weak (pe_chain ho ho' ha hb hc hm) fun σ H Q q => go3 q
theorem dt_chain {op op' : CmpOp} {h h' : D → D → Option D} (ho : OpR X (compareOp op) (rd2 X.K X.mg g h)) (ho' : OpR X (compareOp op') (rd2 X.K X.mg g h')) (ha : DE X g W a fa) (hb : DE X g W b fb) (hc : DE X g W c fc)
    (hm : lastMarks [op, op'] [b, c] = false := by with_unfolding_all rfl) : DT X g W (.Compare a [op, op'] [b, c] pos) (tB1 (ev3 h h' fa fb fc)) := by
  refine PT_weak (pt_chain ho ho' ha hb hc hm) fun σ H Q ⟨F0, H0, F, z, n, q⟩ => ?_
  show tChain _ _ _ _ _ σ H _
  exact go3 ⟨F0, H0, F, z, n, useT q⟩

/-! ### tests -/
/-- a value's truth -/
def truD : D → Option Bool
  | .non => some false
  | .bl b => some b
  | .int i => some (i != 0)
  | .str y => if y.length ≤ 16777216 then some ((y.length : Int) != 0) else none
  | .tup ds => some (!ds.isEmpty)
  | .lst ds => some (!ds.isEmpty)
  | _ => none
def tTru (f : ME) : MT := fun z => (f z).bind fun d z1 => match truD d with
  | some b => .ok b z1
  | none => .stuck
theorem emp_eq {ds : List D} {vs : List V} (h : vs.length = ds.length) : (!ds.isEmpty) = !vs.isEmpty := by
  cases ds <;> cases vs <;> simp_all
theorem dt_val (ha : DE X g W a fa) (he : ∀ whole, isTrue a X.env whole = (do let v ← whole; standAt a.pos; holding [v] (truthy v)) := by intro _; rfl) : DT X g W a (tTru fa) := by
  refine PT_weak (pt_truth ha he) fun σ H Q ⟨F0, H0, F, z, n, q⟩ => ⟨F0, H0, F, z, n, (E1.bindT q).imp fun v H1 ⟨d, z1, F1, a1, r1, _, h1⟩ => ?_⟩
  split at h1
  · rename_i k e
    refine ⟨k, ?_, h1.give a1.now⟩
    cases d <;> simp only [truD] at e <;> try (cases e; done)
    · cases r1; cases e; rfl
    · cases r1; cases e; rfl
    · cases r1; cases e; rfl
    · split at e
      · rename_i hl
        cases r1; cases e
        exact ⟨by rw [line_eq]; exact hl, rfl⟩
      · cases e
    · cases e
      obtain ⟨p, vs, rfl, s1, s2⟩ := r1
      exact .inr (.inl ⟨vs, a1.now.ok.sub.sqT s1, emp_eq s2.len⟩)
    · cases e
      obtain ⟨p, vs, rfl, s1, s2⟩ := r1
      exact .inl ⟨vs, .inl (.inl (a1.now.ok.sub _ _ s1)), emp_eq s2.len⟩
  · exact h1.elim
def tAndD (t u : MT) : MT := fun z => (t z).bind fun b z1 => if b = true then u z1 else .ok false z1
def tOrD (t u : MT) : MT := fun z => (t z).bind fun b z1 => if b = true then .ok true z1 else u z1
def tNotD (t : MT) : MT := fun z => (t z).bind fun b z1 => .ok (!b) z1
variable {ft fu : MT} {rest : List Expr}
theorem dw_and1 (h : DT X g W a ft) : DW X g W (.BoolOp .And [a] pos) ft := pw_and1 h
theorem dw_or1 (h : DT X g W a ft) : DW X g W (.BoolOp .Or [a] pos) ft := pw_or1 h
theorem dw_and (h : DT X g W a ft) (h' : DW X g W (.BoolOp .And (b :: rest) pos) fu) : DW X g W (.BoolOp .And (a :: b :: rest) pos) (tAndD ft fu) := by
  refine PW_weak (pw_and h h') fun σ H Q ⟨F0, H0, F, z, n, q⟩ => ⟨F0, H0, F, z, n, (ET.bindT q).imp fun k H1 ⟨z1, F1, a1, _, h1⟩ => ?_⟩
  cases k with
  | true => rw [if_pos rfl] at h1 ⊢; exact ⟨F0, H0, F1, z1, a1.now, h1⟩
  | false => rw [if_neg Bool.false_ne_true] at h1 ⊢; exact h1.give a1.now
theorem dw_or (h : DT X g W a ft) (h' : DW X g W (.BoolOp .Or (b :: rest) pos) fu) : DW X g W (.BoolOp .Or (a :: b :: rest) pos) (tOrD ft fu) := by
  refine PW_weak (pw_or h h') fun σ H Q ⟨F0, H0, F, z, n, q⟩ => ⟨F0, H0, F, z, n, (ET.bindT q).imp fun k H1 ⟨z1, F1, a1, _, h1⟩ => ?_⟩
  cases k with
  | true => rw [if_pos rfl] at h1 ⊢; exact h1.give a1.now
  | false => rw [if_neg Bool.false_ne_true] at h1 ⊢; exact ⟨F0, H0, F1, z1, a1.now, h1⟩
theorem dt_bool {op} (h : DW X g W (.BoolOp op rest pos) ft) : DT X g W (.BoolOp op rest pos) ft := PW.pt h
theorem dt_not (h : DT X g W a ft) : DT X g W (.UnaryOp .Not a pos) (tNotD ft) := by
  refine PT_weak (pt_not h) fun σ H Q ⟨F0, H0, F, z, n, q⟩ => ⟨F0, H0, F, z, n, (ET.bindT q).imp fun k H1 ⟨z1, F1, a1, _, h1⟩ => h1.give a1.now⟩
def evIf (t : MT) (fa fb : ME) : ME := fun z => (t z).bind fun b z1 => if b = true then fa z1 else fb z1
theorem de_if (hc : DT X g W c ft) (ha : DE X g W a fa) (hb : DE X g W b fb) : DE X g W (.IfExp c a b pos) (evIf ft fa fb) := by
  refine PE_weak (pe_ifExp hc ha hb) fun σ H Q ⟨F0, H0, F, z, n, q⟩ => ⟨F0, H0, F, z, n, (ET.bindE q).imp fun k H1 ⟨z1, F1, a1, _, h1⟩ => ?_⟩
  cases k with
  | true => rw [if_pos rfl] at h1 ⊢; exact ⟨F0, H0, F1, z1, a1.now, h1⟩
  | false => rw [if_neg Bool.false_ne_true] at h1 ⊢; exact ⟨F0, H0, F1, z1, a1.now, h1⟩
/-- not, as a value -/
def evNot (f : ME) : ME := fun z => (f z).bind fun d z1 => match d with
  | .bl b => .ok (.bl (!b)) z1
  | _ => .stuck
theorem de_not (ha : DE X g W a fa) : DE X g W (.UnaryOp .Not a pos) (evNot fa) := by
  refine PE_weak (pe_not ha) fun σ H Q ⟨F0, H0, F, z, n, q⟩ => ⟨F0, H0, F, z, n, (E1.bindE q).imp fun v H1 ⟨d, z1, F1, a1, r1, _, h1⟩ => ?_⟩
  split at h1
  · cases r1
    exact ⟨_, rfl, h1.give a1.now rfl⟩
  · exact h1.elim
/-- and, or as values: all but the last a bool -/
def evAnd (fa fb : ME) : ME := fun z => (fa z).bind fun d z1 => match d with
  | .bl true => fb z1
  | .bl false => .ok (.bl false) z1
  | _ => .stuck
def evOr (fa fb : ME) : ME := fun z => (fa z).bind fun d z1 => match d with
  | .bl true => .ok (.bl true) z1
  | .bl false => fb z1
  | _ => .stuck
theorem de_one {op} (h : DE X g W a fa) : DE X g W (.BoolOp op [a] pos) fa := pe_one h
theorem de_and (ha : DE X g W a fa) (hb : DE X g W (.BoolOp .And (b :: rest) pos) fb) : DE X g W (.BoolOp .And (a :: b :: rest) pos) (evAnd fa fb) := by
  refine PE_weak (pe_and ha hb) fun σ H Q ⟨F0, H0, F, z, n, q⟩ => ⟨F0, H0, F, z, n, (E1.bindE q).imp fun v H1 ⟨d, z1, F1, a1, r1, _, h1⟩ => ?_⟩
  split at h1
  · cases r1
    refine ⟨true, rfl, ?_⟩
    rw [if_pos rfl]; exact ⟨F0, H0, F1, z1, a1.now, h1⟩
  · cases r1
    refine ⟨false, rfl, ?_⟩
    rw [if_neg Bool.false_ne_true]; exact h1.give a1.now rfl
  · exact h1.elim
theorem de_or (ha : DE X g W a fa) (hb : DE X g W (.BoolOp .Or (b :: rest) pos) fb) : DE X g W (.BoolOp .Or (a :: b :: rest) pos) (evOr fa fb) := by
  refine PE_weak (pe_or ha hb) fun σ H Q ⟨F0, H0, F, z, n, q⟩ => ⟨F0, H0, F, z, n, (E1.bindE q).imp fun v H1 ⟨d, z1, F1, a1, r1, _, h1⟩ => ?_⟩
  split at h1
  · cases r1
    refine ⟨true, rfl, ?_⟩
    rw [if_pos rfl]; exact h1.give a1.now rfl
  · cases r1
    refine ⟨false, rfl, ?_⟩
    rw [if_neg Bool.false_ne_true]; exact ⟨F0, H0, F1, z1, a1.now, h1⟩
  · exact h1.elim

/-! ### subscripts -/
def ixD (d i : D) : Option D := match i with
  | .int k => match d with
    | .tup ds => atI ds k
    | .lst ds => atI ds k
    | .str z => if z.length ≤ 16777216 then (atI z.cps.toList k).map fun c => .str ⟨#[c]⟩ else none
    | _ => none
  | _ => none
theorem atI_reps {K : PySem.W.Frag} {mg : Str → Option Value} {g : Gh} {F : Hp} {ds : List D} {vs : List V} {k : Int} {d : D} (h : Reps K mg g F ds vs) (e : atI ds k = some d) : ∃ v, atI vs k = some v ∧ Rep K mg g F d v := by
  unfold atI at e ⊢
  rw [h.len]
  cases q : ixN ds.length k with
  | none => rw [q] at e; cases e
  | some j =>
    rw [q] at e
    exact h.get e
theorem od_ix : IxR X (rd2 X.K X.mg g ixD) := by
  intro va sl pins s σ H x y v u Q I rx ry h hs
  obtain ⟨F, t, d, e, r, ok, h1, h2, hr, q⟩ := h
  cases e <;> simp only [ixD] at hr <;> try (cases hr; done)
  cases h2
  cases d <;> simp only at hr <;> try (cases hr; done)
  · split at hr
    · rename_i z hl
      cases e : atI z.cps.toList ‹Int› with
      | none => rw [e] at hr; cases hr
      | some c =>
        rw [e] at hr; cases hr
        cases h1
        exact ix_str va sl pins s σ H _ _ v u Q I rx ry ⟨z, _, c, rfl, rfl, by rw [line_eq]; exact hl, e, q.give ok rfl⟩ hs
    · cases hr
  · obtain ⟨a, vs, rfl, s1, s2⟩ := h1
    obtain ⟨w, e1, e2⟩ := atI_reps s2 hr
    exact ix_tup va sl pins s σ H _ _ v u Q I rx ry ⟨a, vs, _, w, rfl, rfl, ok.sub.sqT s1, e1, q.give ok e2⟩ hs
  · obtain ⟨a, vs, rfl, s1, s2⟩ := h1
    obtain ⟨w, e1, e2⟩ := atI_reps s2 hr
    exact ix_list va sl pins s σ H _ _ v u Q I rx ry ⟨a, vs, _, w, rfl, rfl, .inl (.inl (ok.sub _ _ s1)), e1, q.give ok e2⟩ hs
theorem de_ix (ha : DE X g W a fa) (hb : DE X g W b fb) (hs : PlainIx b := by exact fun _ _ => rfl) : DE X g W (.Subscript a b pos) (ev2 ixD fa fb) := PE_weak (pe_ix od_ix ha hb hs) fun σ H Q q => go2 q
end
end DL

set_option Elab.async false
set_option linter.all false
set_option maxRecDepth 100000
set_option autoImplicit false
/-! DL4: slices, calls, built-ins, texts. -/
namespace DL
open PySem PySem.Spec PyProof.Rows L2

section
variable {X : Cx} {g : Gh} {W : WX} {pos : Pos} {a b c : Expr} {fa fb fc : ME} {fl : ML}
/-! ### slices -/
abbrev MO := Z → R Z (Option Int)
section
variable (K : PySem.W.Frag) (mg : Str → Option Value) (g : Gh) (W : WX)
def EO (F0 H0 : Hp) (σ : L2.St) (F H : Hp) (z : Z) (r : R Z (Option Int)) (Q : Option Int → Hp → Prop) : Prop := match r with
  | .ok b z' => ∀ F' H', Aft K mg g F0 H0 F H z F' H' z' σ → Q b H'
  | .err c z' => EErr K mg g W F0 H0 σ F H z c z'
  | .stuck => False
def RdO (f : MO) : TO := fun σ H Q => ∃ F0 H0 F z, Now K mg g F0 H0 F H z σ ∧ EO K mg g W F0 H0 σ F H z (f z) Q
end
section
variable {K : PySem.W.Frag} {mg : Str → Option Value} {g : Gh} {W : WX} {F0 H0 F H F' H' F1 H1 : Hp} {σ : L2.St} {z z' z1 : Z} {Q : VK}
theorem EO.imp {r : R Z (Option Int)} {Q Q' : Option Int → Hp → Prop} (h : EO K mg g W F0 H0 σ F H z r Q) (hq : ∀ v H, Q v H → Q' v H) : EO K mg g W F0 H0 σ F H z r Q' := by
  cases r with
  | ok d z => exact fun F' H' a => hq _ _ (h F' H' a)
  | err c z => exact h
  | stuck => exact h
theorem EO.bindE {r : R Z (Option Int)} {f : Option Int → Z → R Z D} (h : E1 K mg g W F0 H0 σ F H z (r.bind f) Q) :
    EO K mg g W F0 H0 σ F H z r fun b H1 => ∃ z1 F1, Aft K mg g F0 H0 F H z F1 H1 z1 σ ∧ r = .ok b z1 ∧ E1 K mg g W F0 H0 σ F1 H1 z1 (f b z1) Q := by
  cases r with
  | ok d z => exact fun F' H' a => ⟨z, F', a, rfl, E1.from a h⟩
  | err c z => exact h
  | stuck => exact h
theorem E1.bindO {r : R Z D} {f : D → Z → R Z (Option Int)} {Q : Option Int → Hp → Prop} (h : EO K mg g W F0 H0 σ F H z (r.bind f) Q) :
    E1 K mg g W F0 H0 σ F H z r fun v H1 => ∃ d z1 F1, Aft K mg g F0 H0 F H z F1 H1 z1 σ ∧ Rep K mg g F1 d v ∧ r = .ok d z1 ∧ EO K mg g W F0 H0 σ F1 H1 z1 (f d z1) Q := by
  cases r with
  | ok d z2 =>
    refine fun F' v H' a b => ⟨d, z2, F', a, b, rfl, ?_⟩
    have h' : EO K mg g W F0 H0 σ F H z (f d z2) Q := h
    generalize f d z2 = r at h'
    cases r with
    | ok b z3 => exact fun F' H' b => h' F' H' (a.trans b)
    | err c z3 => exact fun F' H' C b e => h' F' H' C (a.trans b) e
    | stuck => exact h'
  | err c z => exact h
  | stuck => exact h
end
abbrev DO (X : Cx) (g : Gh) (W : WX) (e : Option Expr) (f : MO) : Prop := PO X e (RdO X.K X.mg g W f)
theorem PO_weak {X : Cx} {e : Option Expr} {t t' : TO} (h : PO X e t) (w : ∀ σ H Q, t' σ H Q → t σ H Q) : PO X e t' := ⟨fun pins s σ H Q I q => h.run pins s σ H Q I (w σ H Q q)⟩
def evO0 : MO := fun z => .ok none z
def evO1 (f : ME) : MO := fun z => (f z).bind fun d z1 => match d with
  | .int i => .ok (some i) z1
  | _ => .stuck
theorem do_none : DO X g W none evO0 := PO_weak po_none fun σ H Q ⟨F0, H0, F, z, n, h⟩ => h F H (Aft.refl n)
theorem do_some (ha : DE X g W a fa) : DO X g W (some a) (evO1 fa) := by
  refine PO_weak (po_some ha) fun σ H Q ⟨F0, H0, F, z, n, h⟩ => ⟨F0, H0, F, z, n, (E1.bindO h).imp fun v H1 ⟨d, z1, F1, a1, r1, _, h1⟩ => ?_⟩
  split at h1
  · cases r1
    exact ⟨_, rfl, h1 F1 H1 (Aft.refl a1.now)⟩
  · exact h1.elim
/-- the items of a slice -/
def cutD (xs : List D) (lo hi : Option Int) : List D := (xs.drop (HT.sIx xs.length 0 lo)).take (HT.sIx xs.length xs.length hi - HT.sIx xs.length 0 lo)
theorem Reps.cut {K : PySem.W.Frag} {mg : Str → Option Value} {g : Gh} {F : Hp} {ds : List D} {vs : List V} (h : Reps K mg g F ds vs) (lo hi : Option Int) : Reps K mg g F (cutD ds lo hi) (cutV vs lo hi) := by
  unfold cutD cutV
  rw [h.len]
  exact (h.drop _).take _
/-- is the whole tuple taken -/
def wholeT (n : Nat) (lo hi : Option Int) : Bool := decide (HT.sIx n 0 lo = 0) && decide (HT.sIx n n hi = n)
def slD (d : D) (lo hi : Option Int) : Option D := match d with
  | .str z => if z.length ≤ 16777216 then some (.str (cutS z lo hi)) else none
  | .lst ds => some (.lst (cutD ds lo hi))
  | .tup ds => some (.tup (cutD ds lo hi))
  | .scr ds => some (.lst (cutD ds lo hi))
  | _ => none
theorem od_sl : SlR X (fun x lo hi H Q => ∃ F s d r, Ok X.K g F s H ∧ Rep X.K X.mg g F d x ∧ slD d lo hi = some r ∧ Ret X.K X.mg g F s H r Q) := by
  intro pins s σ H x v vl vu lo hi sl Q I rx hs pl pu h
  obtain ⟨F, t, d, r, ok, h1, hr, q⟩ := h
  cases d <;> simp only [slD] at hr <;> try (cases hr; done)
  · split at hr
    · rename_i hl
      cases h1; cases hr
      exact sl_str pins s σ H _ v vl vu lo hi sl Q I rx hs pl pu ⟨_, rfl, by rw [line_eq]; exact hl, q.give ok rfl⟩
    · cases hr
  · cases hr
    obtain ⟨a, vs, rfl, s1, s2⟩ := h1
    refine sl_tupA pins s σ H _ v vl vu lo hi sl Q I rx hs pl pu ⟨a, vs, rfl, ok.sub.sqT s1, fun hw => ?_, fun _ p hp => q.tup ok (s2.cut lo hi) hp⟩
    refine q.give ok ⟨a, vs, rfl, s1, ?_⟩
    have e := s2.cut lo hi
    have ev : cutV vs lo hi = vs := by
      unfold cutV
      rw [hw.1, hw.2, List.drop_zero, Nat.sub_zero, List.take_length]
    rw [ev] at e
    exact e
  · cases hr
    obtain ⟨a, vs, rfl, s1, s2⟩ := h1
    exact sl_list pins s σ H _ v vl vu lo hi sl Q I rx hs pl pu ⟨a, vs, rfl, .inl (.inl (ok.sub _ _ s1)), fun p hp => q.lst ok (s2.cut lo hi) hp⟩
  · cases hr
    obtain ⟨a, vs, rfl, s1, s2⟩ := h1
    exact sl_list pins s σ H _ v vl vu lo hi sl Q I rx hs pl pu ⟨a, vs, rfl, Sub.sqL ok.sub s1, fun p hp => q.lst ok (s2.cut lo hi) hp⟩
def evSl (fa : ME) (fo fp : MO) : ME := fun z => (fa z).bind fun d z1 => (fo z1).bind fun lo z2 => (fp z2).bind fun hi z3 => lift (slD d lo hi) z3
theorem de_sl {lo hi : Option Expr} {p2 : Pos} {fo fp : MO} (ha : DE X g W a fa) (hl : DO X g W lo fo) (hh : DO X g W hi fp) : DE X g W (.Subscript a (.Slice lo hi none p2) pos) (evSl fa fo fp) := by
  refine PE_weak (pe_slice (od_sl (g := g)) ha hl hh) fun σ H Q ⟨F0, H0, F, z, n, q⟩ => ⟨F0, H0, F, z, n, (E1.bindE q).imp fun v H1 ⟨d, z1, F1, a1, r1, _, h1⟩ => ?_⟩
  refine ⟨F0, H0, F1, z1, a1.now, (EO.bindE h1).imp fun l H2 ⟨z2, F2, a2, _, h2⟩ => ⟨F0, H0, F2, z2, a2.now, (EO.bindE h2).imp fun u H3 ⟨z3, F3, a3, _, h3⟩ => ?_⟩⟩
  unfold lift at h3
  split at h3
  · rename_i r er
    exact ⟨F3, z3.s, d, r, a3.now.ok, Rep.mono (a2.sub.trans a3.sub) _ _ r1, er, E1.ret h3 a3.now⟩
  · exact h3.elim

/-! ### calls of defs -/
def evCall (n : Nat) (f : MF) (dds : List D) (fl : ML) : ME := fun z => (fl z).bind fun ds z1 => if (ds ++ dds).length = n then (match f (ds ++ dds) z1.s with
  | .ok d s' => .ok d ⟨z1.ρ, s'⟩
  | .err c s' => .err c ⟨z1.ρ, s'⟩
  | .stuck => .stuck) else .stuck
theorem de_call {k n : Nat} {f : Addr} {fd : FuncData} {ps : List Str} {x : Str} {p : Pos} {e : Expr} {es : List Expr} {mf : MF} {dds : List D} {dvs : List V} {dus : List Value}
    (Fn : FnOk X.prog X.w X.K X.mg X.base (L2.CX X.prog X.w) k f fd ps (spD X.K X.mg g n mf)) (hr : Room k X.A) (tk : Takes X W) (hg : Gl X x) (hm : X.mg x = some (.ref f)) (hk : PySem.W.keepIn X.K (.ref f) = true)
    (hb : Binds X.K fd ps dus) (hd : Vals dvs dus) (hdd : ∀ F, Reps X.K X.mg g F dds dvs) (ha : DA X g W (e :: es) fl) (hdb : (x == ("__debug__" : Str)) = false := by decide) (he : starEach (e :: es) X.env = (false, eval e X.env) :: starEach es X.env := by rfl)
    (hpl : (backTo pos (starEach es X.env)).any (·.1) = false := by rfl) : DE X g W (.Call (.Name x p) (e :: es) [] pos) (evCall n mf dds fl) := by
  refine PE_weak (pe_callSD (E := WE W) Fn hr hg hm hk hb hd (fun σ => passAt tk σ) ha hdb he hpl) fun σ H Q ⟨F0, H0, F, z, n, q⟩ => ⟨F0, H0, F, z, n, (EL.bindE q).imp fun vs H1 ⟨ds, z1, F1, a1, r1, _, h1⟩ => ?_⟩
  split at h1
  · rename_i hl
    have rr := r1.append (hdd F1)
    refine ⟨F1, ds ++ dds, z1.s, by rw [rr.len]; exact hl, a1.now.ok, rr, ?_⟩
    split <;> rename_i e <;> rw [e] at h1
    · exact fun F' v H' st ok r => h1 F' v H' (a1.now.aft st ok) r
    · exact fun F' H' C st ok em => h1 F' H' C (a1.now.aft st ok) em
    · exact h1.elim
  · exact h1.elim

/-! ### built-ins -/
def evB (h : List D → Option D) (fl : ML) : ME := fun z => (fl z).bind fun ds z1 => lift (h ds) z1
theorem goN {h : List D → Option D} {σ : L2.St} {H : Hp} {Q : VK} (q : RdE X.K X.mg g W (evB h fl) σ H Q) : tCB (rdN X.K X.mg g h) (RdL X.K X.mg g W fl) σ H Q := by
  obtain ⟨F0, H0, F, z, n, q⟩ := q
  exact ⟨F0, H0, F, z, n, (EL.bindE q).imp fun vs H1 ⟨ds, z1, F1, a1, r1, _, h1⟩ => useN a1.now r1 h1⟩
theorem de_blt {id : String} {x : Str} {p : Pos} {e : Expr} {es : List Expr} {h : List D → Option D} (hc : CallR X (.builtin id) (rdN X.K X.mg g h)) (hg : Gl X x) (hm : X.mg x = none) (hv : bootBuiltins x = some (.builtin id)) (ha : DA X g W (e :: es) fl)
    (hn : x ≠ "__name__" := by decide) (hdb : (x == ("__debug__" : Str)) = false := by decide)
    (he : starEach (e :: es) X.env = (false, eval e X.env) :: starEach es X.env := by rfl) (hpl : (backTo pos (starEach es X.env)).any (·.1) = false := by rfl) : DE X g W (.Call (.Name x p) (e :: es) [] pos) (evB h fl) :=
  PE_weak (pe_callB hc hg hm hv ha hn hdb he hpl) fun σ H Q q => goN q
theorem de_bty {T : String} {x : Str} {p : Pos} {e : Expr} {es : List Expr} {h : List D → Option D} (hc : CallR X (.type T) (rdN X.K X.mg g h)) (hg : Gl X x) (hm : X.mg x = none) (hv : bootBuiltins x = some (.type T)) (ha : DA X g W (e :: es) fl)
    (hn : x ≠ "__name__" := by decide) (hdb : (x == ("__debug__" : Str)) = false := by decide)
    (he : starEach (e :: es) X.env = (false, eval e X.env) :: starEach es X.env := by rfl) (hpl : (backTo pos (starEach es X.env)).any (·.1) = false := by rfl) : DE X g W (.Call (.Name x p) (e :: es) [] pos) (evB h fl) :=
  PE_weak (pe_callTy hc hg hm hv ha hn hdb he hpl) fun σ H Q q => goN q
def bAbs : List D → Option D
  | [.int i] => some (.int (if i < 0 then -i else i))
  | _ => none
def bInt : List D → Option D
  | [.int i] => some (.int i)
  | [.bl k] => some (.int (if k then 1 else 0))
  | [.str a] => if a.length ≤ 640 then (PySem.intText? a).map D.int else none
  | _ => none
def bStr : List D → Option D
  | [.int i] => if i.natAbs.log2 < 1920 then some (.str (toString i)) else none
  | _ => none
def bLen : List D → Option D
  | [.str y] => if y.length ≤ 16777216 then some (.int y.length) else none
  | [.lst ds] => some (.int ds.length)
  | [.tup ds] => some (.int ds.length)
  | _ => none
theorem reps1 {K : PySem.W.Frag} {mg : Str → Option Value} {g : Gh} {F : Hp} {d : D} {vs : List V} (h : Reps K mg g F [d] vs) : ∃ v, vs = [v] ∧ Rep K mg g F d v := by
  obtain ⟨v, r, rfl, h1, h2⟩ := h
  cases h2
  exact ⟨v, rfl, h1⟩
theorem cd_abs : CallR X (.builtin "abs") (rdN X.K X.mg g bAbs) := by
  intro pins s σ H xs us Q I r h
  obtain ⟨F, t, ds, d, ok, h1, hr, q⟩ := h
  unfold bAbs at hr
  split at hr <;> cases hr
  obtain ⟨v, rfl, h2⟩ := reps1 h1
  cases h2
  exact call_abs pins s σ H _ us Q I r ⟨_, rfl, q.give ok rfl⟩
theorem cd_int : CallR X (.type "int") (rdN X.K X.mg g bInt) := by
  intro pins s σ H xs us Q I r h
  obtain ⟨F, t, ds, d, ok, h1, hr, q⟩ := h
  unfold bInt at hr
  split at hr
  · cases hr
    obtain ⟨v, rfl, h2⟩ := reps1 h1
    cases h2
    exact call_int1 pins s σ H _ us Q I r (.inl ⟨_, rfl, q.give ok rfl⟩)
  · cases hr
    obtain ⟨v, rfl, h2⟩ := reps1 h1
    cases h2
    exact call_int1 pins s σ H _ us Q I r (.inr ⟨_, rfl, q.give ok rfl⟩)
  · split at hr
    · rename_i a hl
      cases e : PySem.intText? a with
      | none => rw [e] at hr; cases hr
      | some n =>
        rw [e] at hr; cases hr
        obtain ⟨v, rfl, h2⟩ := reps1 h1
        cases h2
        exact call_int_str pins s σ H _ us Q I r ⟨_, n, rfl, e, hl, q.give ok rfl⟩
    · cases hr
  · cases hr
theorem cd_str : CallR X (.type "str") (rdN X.K X.mg g bStr) := by
  intro pins s σ H xs us Q I r h
  obtain ⟨F, t, ds, d, ok, h1, hr, q⟩ := h
  unfold bStr at hr
  split at hr
  · split at hr
    · rename_i hl
      cases hr
      obtain ⟨v, rfl, h2⟩ := reps1 h1
      cases h2
      exact call_str_int pins s σ H _ us Q I r ⟨_, rfl, hl, q.give ok rfl⟩
    · cases hr
  · cases hr
theorem cd_len : CallR X (.builtin "len") (rdN X.K X.mg g bLen) := by
  intro pins s σ H xs us Q I r h
  obtain ⟨F, t, ds, d, ok, h1, hr, q⟩ := h
  unfold bLen at hr
  split at hr
  · split at hr
    · rename_i hl
      cases hr
      obtain ⟨v, rfl, h2⟩ := reps1 h1
      cases h2
      exact call_len pins s σ H _ us Q I r ⟨_, _, rfl, ⟨by rw [line_eq]; exact hl, rfl⟩, q.give ok rfl⟩
    · cases hr
  · cases hr
    obtain ⟨v, rfl, a, vs, rfl, s1, s2⟩ := reps1 h1
    exact call_len pins s σ H _ us Q I r ⟨_, vs.length, rfl, .inl ⟨vs, .inl (.inl (ok.sub _ _ s1)), rfl⟩, by rw [s2.len]; exact q.give ok rfl⟩
  · cases hr
    obtain ⟨v, rfl, a, vs, rfl, s1, s2⟩ := reps1 h1
    exact call_len pins s σ H _ us Q I r ⟨_, vs.length, rfl, .inr ⟨vs, ok.sub.sqT s1, rfl⟩, by rw [s2.len]; exact q.give ok rfl⟩
  · cases hr

/-! ### methods of texts -/
def evM1 (h : D → D → Option D) (fa fb : ME) : ME := ev2 h fa fb
def isStrD : D → Bool
  | .str _ => true
  | _ => false
/-- s.m(e), by its rule on values -/
theorem de_m1 {id : String} {name : Str} {apos : Pos} {h : D → D → Option D} {r : V → List V → Hp → VK → Prop} (slot : Slot "str" name id) (ty : typeOf (.builtin id) = pure (.type "method_descriptor")) (rule : MtR X id r)
    (hs1 : ∀ d e, (∃ r, h d e = some r) → isStrD d = true) (hr : ∀ F s H d e x y z Q, Ok X.K g F s H → Rep X.K X.mg g F d x → Rep X.K X.mg g F e y → h d e = some z → Ret X.K X.mg g F s H z Q → r x [y] H Q)
    (ho : DE X g W a fa) (he : DE X g W b fb)
    (hs : starEach [b] X.env = [(false, eval b X.env)] := by rfl) (hbase : attributeBase a name X.env (eval a X.env) = eval a X.env := by rfl) (hline : (apos.endLine == pos.line) = true := by rfl) :
    DE X g W (.Call (.Attribute a name apos) [b] [] pos) (ev2 h (fun z => (fa z).bind fun d z1 => if isStrD d = true then .ok d z1 else .stuck) fb) := by
  refine PE_weak (pe_m1 slot ty rule ho he hs hbase hline) fun σ H Q ⟨F0, H0, F, z, n, q⟩ => ⟨F0, H0, F, z, n, ?_⟩
  unfold ev2 at q
  rw [R.bind_assoc] at q
  refine (E1.bindE q).imp fun v H1 ⟨d, z1, F1, a1, r1, _, h1⟩ => ?_
  split at h1
  · rename_i hd
    obtain ⟨y, rfl⟩ : ∃ y, d = .str y := by cases d <;> first | exact ⟨_, rfl⟩ | cases hd
    cases r1
    rw [R.bind_ok] at h1
    refine ⟨⟨_, rfl⟩, F0, H0, F1, z1, a1.now, (E1.bindE h1).imp fun w H2 ⟨e, z2, F2, a2, r2, _, h2⟩ => ?_⟩
    unfold lift at h2
    split at h2
    · rename_i r er
      exact hr F2 z2.s H2 (.str y) e _ w r Q a2.now.ok rfl r2 er (E1.ret h2 a2.now)
    · exact h2.elim
  · exact h1.elim
def mSplit (d e : D) : Option D := match d, e with
  | .str a, .str b => if (b.length == 0) = false ∧ a.length + 2 ≤ 16777216 then some (.lst ((Txt.split a b).map D.str)) else none
  | _, _ => none
def mStarts (d e : D) : Option D := match d, e with
  | .str a, .str b => some (.bl (Txt.startswith a b))
  | _, _ => none
theorem reps_strs {K : PySem.W.Frag} {mg : Str → Option Value} {g : Gh} {F : Hp} : ∀ ys : List Str, Reps K mg g F (ys.map D.str) (ys.map V.str)
  | [] => rfl
  | y :: ys => ⟨.str y, _, rfl, rfl, reps_strs ys⟩
abbrev onStr (fa : ME) : ME := fun z => (fa z).bind fun d z1 => if isStrD d = true then .ok d z1 else .stuck
theorem de_split {apos : Pos} (ho : DE X g W a fa) (he : DE X g W b fb) (hs : starEach [b] X.env = [(false, eval b X.env)] := by rfl) (hbase : attributeBase a "split" X.env (eval a X.env) = eval a X.env := by rfl) (hline : (apos.endLine == pos.line) = true := by rfl) :
    DE X g W (.Call (.Attribute a "split" apos) [b] [] pos) (ev2 mSplit (onStr fa) fb) := by
  refine de_m1 F.slot_str_split F.type_str_split mt_split (fun d e ⟨r, h⟩ => ?_) (fun F s H d e x y z Q ok r1 r2 er q => ?_) ho he hs hbase hline
  · cases d <;> first | rfl | (simp [mSplit] at h)
  · unfold mSplit at er
    split at er
    · split at er
      · rename_i hl
        cases er; cases r1; cases r2
        exact ⟨_, _, rfl, rfl, hl.1, by rw [line_eq]; exact hl.2, fun p hp => q.lst ok (reps_strs _) hp⟩
      · cases er
    · cases er
theorem de_starts {apos : Pos} (ho : DE X g W a fa) (he : DE X g W b fb) (hs : starEach [b] X.env = [(false, eval b X.env)] := by rfl) (hbase : attributeBase a "startswith" X.env (eval a X.env) = eval a X.env := by rfl) (hline : (apos.endLine == pos.line) = true := by rfl) :
    DE X g W (.Call (.Attribute a "startswith" apos) [b] [] pos) (ev2 mStarts (onStr fa) fb) := by
  refine de_m1 F.slot_str_startswith F.type_str_startswith mt_startswith (fun d e ⟨r, h⟩ => ?_) (fun F s H d e x y z Q ok r1 r2 er q => ?_) ho he hs hbase hline
  · cases d <;> first | rfl | (simp [mStarts] at h)
  · unfold mStarts at er
    split at er
    · cases er; cases r1; cases r2
      exact ⟨_, _, rfl, rfl, q.give ok rfl⟩
    · cases er
def strsOf : List D → Option (List Str)
  | [] => some []
  | .str x :: r => (strsOf r).map (x :: ·)
  | _ :: _ => none
theorem strsOf_reps {K : PySem.W.Frag} {mg : Str → Option Value} {g : Gh} {F : Hp} : ∀ {ds : List D} {vs : List V} {ys : List Str}, Reps K mg g F ds vs → strsOf ds = some ys → vs = ys.map V.str
  | [], _, ys, h, e => by cases h; cases e; rfl
  | d :: ds, _, ys, ⟨v, r, e1, h1, h2⟩, e => by
    subst e1
    cases d <;> simp only [strsOf] at e <;> try (cases e; done)
    cases q : strsOf ds with
    | none => rw [q] at e; cases e
    | some zs =>
      rw [q] at e; cases e
      cases h1
      rw [strsOf_reps h2 q]; rfl
def mJoin (d e : D) : Option D := match d, e with
  | .str a, .lst ds => match strsOf ds with
    | some ys => if (ys.map (·.length)).sum + ys.length * a.length ≤ 16777216 then some (.str (Txt.join a ys)) else none
    | none => none
  | _, _ => none
theorem de_join {apos : Pos} (ho : DE X g W a fa) (he : DE X g W b fb) (hs : starEach [b] X.env = [(false, eval b X.env)] := by rfl) (hbase : attributeBase a "join" X.env (eval a X.env) = eval a X.env := by rfl) (hline : (apos.endLine == pos.line) = true := by rfl) :
    DE X g W (.Call (.Attribute a "join" apos) [b] [] pos) (ev2 mJoin (onStr fa) fb) := by
  refine de_m1 F.slot_str_join F.type_str_join mt_join (fun d e ⟨r, h⟩ => ?_) (fun F s H d e x y z Q ok r1 r2 er q => ?_) ho he hs hbase hline
  · cases d <;> first | rfl | (simp [mJoin] at h)
  · unfold mJoin at er
    split at er
    · split at er
      · rename_i ds ys es
        split at er
        · rename_i hl
          cases er; cases r1
          obtain ⟨p, vs, rfl, s1, s2⟩ := r2
          rw [strsOf_reps s2 es] at s1
          exact ⟨_, p, ys, rfl, rfl, .inl (.inl (.inl (ok.sub _ _ s1))), hl, q.give ok rfl⟩
        · cases er
      · cases er
    · cases er

/-! ### f-strings of ints and texts -/
def evFmt (f : ME) : Z → R Z Str := fun z => (f z).bind fun d z1 => match d with
  | .str y => if y.length ≤ 16777216 then .ok y z1 else .stuck
  | .int i => if i.natAbs.log2 < 1920 then .ok (toString i) z1 else .stuck
  | _ => .stuck
inductive FJ (X : Cx) (g : Gh) (W : WX) : List Expr → List ME → Prop where
  | nil : FJ X g W [] []
  | cons {e : Expr} {f : ME} {es : List Expr} {fs : List ME} (h : DE X g W e f) (r : FJ X g W es fs) : FJ X g W (e :: es) (f :: fs)
def evFmtD (f : ME) : ME := fun z => (f z).bind fun d z1 => match d with
  | .str y => if y.length ≤ 16777216 then .ok (.str y) z1 else .stuck
  | .int i => if i.natAbs.log2 < 1920 then .ok (.str (toString i)) z1 else .stuck
  | _ => .stuck
theorem de_fmt (ha : DE X g W a fa) : DE X g W (.FormattedValue a (-1) none pos) (evFmtD fa) := by
  refine PE_weak (pe_fmt ha) fun σ H Q ⟨F0, H0, F, z, n, q⟩ => ⟨F0, H0, F, z, n, (E1.bindE q).imp fun v H1 ⟨d, z1, F1, a1, r1, _, h1⟩ => ?_⟩
  split at h1
  · split at h1
    · rename_i hl
      cases r1
      exact .inl ⟨_, rfl, by rw [line_eq]; exact hl, h1.give a1.now rfl⟩
    · exact h1.elim
  · split at h1
    · rename_i hl
      cases r1
      exact .inr ⟨_, rfl, hl, h1.give a1.now rfl⟩
    · exact h1.elim
  · exact h1.elim
def evJs : List ME → Str → ME
  | [], acc => fun z => .ok (.str acc) z
  | f :: fs, acc => fun z => (f z).bind fun d z1 => match d with
    | .str y => if (acc ++ y).length ≤ 16777216 then evJs fs (acc ++ y) z1 else .stuck
    | _ => .stuck
theorem FJ.run {es : List Expr} {fs : List ME} (h : FJ X g W es fs) : PJ X es (fs.map (RdE X.K X.mg g W)) := by
  induction h with
  | nil => exact .nil
  | cons h r ih => exact .cons h ih
theorem goJ : ∀ (fs : List ME) (acc : Str) (σ : L2.St) (H : Hp) (Q : VK), RdE X.K X.mg g W (evJs fs acc) σ H Q → tJs (fs.map (RdE X.K X.mg g W)) acc σ H fun out H1 => Q (.str out) H1
  | [], acc, σ, H, Q, ⟨F0, H0, F, z, n, q⟩ => q.give n rfl
  | f :: fs, acc, σ, H, Q, ⟨F0, H0, F, z, n, q⟩ => ⟨F0, H0, F, z, n, (E1.bindE q).imp fun v H1 ⟨d, z1, F1, a1, r1, _, h1⟩ => by
      split at h1
      · split at h1
        · rename_i hl
          cases r1
          exact ⟨_, rfl, by rw [line_eq]; exact hl, goJ fs _ σ H1 Q ⟨F0, H0, F1, z1, a1.now, h1⟩⟩
        · exact h1.elim
      · exact h1.elim⟩
theorem de_js {v1 v2 : Expr} {rest : List Expr} {fs : List ME} (h : FJ X g W (v1 :: v2 :: rest) fs) : DE X g W (.JoinedStr (v1 :: v2 :: rest) pos) (evJs fs Str.empty) := PE_weak (pe_joined h.run) fun σ H Q q => goJ fs _ σ H Q q
end
end DL

set_option Elab.async false
set_option linter.all false
set_option maxRecDepth 100000
set_option autoImplicit false
/-! DL5: what is walked, targets, comprehensions. -/
namespace DL
open PySem PySem.Spec PyProof.Rows L2

/-! ### what is walked -/
/-- the iterator J gives the items ds, while what F1 tells stands -/
structure ItD (K : PySem.W.Frag) (mg : Str → Option Value) (g : Gh) (J : It) (F1 : Hp) (ds : List D) : Prop where
  go : ∀ (i : Nat) (d : D) (F H : Hp) (s : S), ds[i]? = some d → Sub F1 F → Ok K g F s H → J.go i H ∧ ∀ x H', J.yld i H x H' → ∃ F', Step g F H F' H' ∧ Ok K g F' s H' ∧ Rep K mg g F' d x
  stop : ∀ (i : Nat) (F H : Hp) (s : S), ds.length ≤ i → Sub F1 F → Ok K g F s H → J.stop i H
section
variable (K : PySem.W.Frag) (mg : Str → Option Value) (g : Gh) (W : WX)
def EI (F0 H0 : Hp) (σ : L2.St) (F H : Hp) (z : Z) (r : R Z (List D)) (R' : It → Hp → Prop) : Prop := match r with
  | .ok ds z' => ∀ F' H' J, Aft K mg g F0 H0 F H z F' H' z' σ → ItD K mg g J F' ds → R' J H'
  | .err c z' => EErr K mg g W F0 H0 σ F H z c z'
  | .stuck => False
def RdI (f : ML) : TI := fun σ H R' => ∃ F0 H0 F z, Now K mg g F0 H0 F H z σ ∧ EI K mg g W F0 H0 σ F H z (f z) R'
end
abbrev DI (X : Cx) (g : Gh) (W : WX) (tg iter : Expr) (f : ML) : Prop := PI X tg iter (RdI X.K X.mg g W f)
theorem PI_weak {X : Cx} {tg e : Expr} {t t' : TI} (h : PI X tg e t) (w : ∀ σ H Q, t' σ H Q → t σ H Q) : PI X tg e t' := ⟨fun pins s σ H Q I q => h.run pins s σ H Q I (w σ H Q q)⟩
section
variable {K : PySem.W.Frag} {mg : Str → Option Value} {g : Gh} {W : WX} {F0 H0 F H F' H' F1 H1 : Hp} {σ : L2.St} {z z' z1 : Z}
theorem EI.from {r : R Z (List D)} {R' : It → Hp → Prop} (a : Aft K mg g F0 H0 F H z F1 H1 z1 σ) (h : EI K mg g W F0 H0 σ F H z r R') : EI K mg g W F0 H0 σ F1 H1 z1 r R' := by
  cases r with
  | ok d z2 => exact fun F' H' J b e => h F' H' J (a.trans b) e
  | err c z2 => exact fun F' H' C b e => h F' H' C (a.trans b) e
  | stuck => exact h
theorem E1.bindI {r : R Z D} {f : D → Z → R Z (List D)} {R' : It → Hp → Prop} (h : EI K mg g W F0 H0 σ F H z (r.bind f) R') :
    E1 K mg g W F0 H0 σ F H z r fun v H1 => ∃ d z1 F1, Aft K mg g F0 H0 F H z F1 H1 z1 σ ∧ Rep K mg g F1 d v ∧ r = .ok d z1 ∧ EI K mg g W F0 H0 σ F1 H1 z1 (f d z1) R' := by
  cases r with
  | ok d z2 => exact fun F' v H' a b => ⟨d, z2, F', a, b, rfl, EI.from a h⟩
  | err c z2 => exact h
  | stuck => exact h
theorem EL.bindI {r : R Z (List D)} {f : List D → Z → R Z (List D)} {R' : It → Hp → Prop} (h : EI K mg g W F0 H0 σ F H z (r.bind f) R') :
    EL K mg g W F0 H0 σ F H z r fun v H1 => ∃ d z1 F1, Aft K mg g F0 H0 F H z F1 H1 z1 σ ∧ Reps K mg g F1 d v ∧ r = .ok d z1 ∧ EI K mg g W F0 H0 σ F1 H1 z1 (f d z1) R' := by
  cases r with
  | ok d z2 => exact fun F' v H' a b => ⟨d, z2, F', a, b, rfl, EI.from a h⟩
  | err c z2 => exact h
  | stuck => exact h
theorem Reps.at {ds : List D} {vs : List V} {i : Nat} {d : D} {x : V} {g : Gh} (h : Reps K mg g F ds vs) (e : ds[i]? = some d) (e' : vs[i]? = some x) : Rep K mg g F d x := by
  obtain ⟨v, h1, h2⟩ := h.get e
  rw [h1] at e'; cases e'; exact h2
theorem ItD.list {a : Addr} {ds : List D} {vs : List V} (h : F1 a = some (.lst vs)) (r : Reps K mg g F1 ds vs) : ItD K mg g (Itl K a) F1 ds where
  go := fun i d F H s e su ok => by
    obtain ⟨v, e1, _⟩ := r.get e
    have hs : SqL K H a vs := .inl (.inl (ok.sub _ _ (su _ _ h)))
    refine ⟨⟨vs, v, hs, e1⟩, fun x H' y => ?_⟩
    obtain ⟨rfl, y⟩ := y
    exact ⟨F, Step.refl F H', ok, Rep.mono su _ _ (r.at e (y vs hs))⟩
  stop := fun i F H s e su ok => ⟨vs, .inl (.inl (ok.sub _ _ (su _ _ h))), by rw [r.len]; exact e⟩
theorem ItD.tup {a : Addr} {ds : List D} {vs : List V} (h : SqT K F1 a vs) (r : Reps K mg g F1 ds vs) : ItD K mg g (Itt K a) F1 ds where
  go := fun i d F H s e su ok => by
    obtain ⟨v, e1, _⟩ := r.get e
    have hs : SqT K H a vs := ok.sub.sqT (su.sqT h)
    refine ⟨⟨vs, v, hs, e1⟩, fun x H' y => ?_⟩
    obtain ⟨rfl, y⟩ := y
    exact ⟨F, Step.refl F H', ok, Rep.mono su _ _ (r.at e (y vs hs))⟩
  stop := fun i F H s e su ok => ⟨vs, ok.sub.sqT (su.sqT h), by rw [r.len]; exact e⟩
/-- lo, lo + 1, .. -/
def rangeD (lo : Int) (n : Nat) : List D := (List.range n).map fun i => .int (lo + (i : Nat))
theorem ItD.range {lo : Int} {n : Nat} : ItD K mg g (Itr lo n) F1 (rangeD lo n) where
  go := fun i d F H s e su ok => by
    unfold rangeD at e
    rw [List.getElem?_map] at e
    have hi : i < n := by
      by_cases hi : i < n
      · exact hi
      · rw [List.getElem?_eq_none (by simpa using hi)] at e; cases e
    rw [List.getElem?_range hi] at e
    cases e
    refine ⟨hi, fun x H' y => ?_⟩
    obtain ⟨rfl, rfl⟩ := y
    exact ⟨F, Step.refl F H', ok, rfl⟩
  stop := fun i F H s e su ok => by
    show n ≤ i
    simpa [rangeD] using e
/-- (0, x), (1, y), .. -/
def enumD (ds : List D) : List D := ds.mapIdx fun i d => .tup [.int (i : Nat), d]
theorem ItD.enum {a : Addr} {ds : List D} {vs : List V} (h : F1 a = some (.lst vs)) (r : Reps K mg g F1 ds vs) : ItD K mg g (Ite K a) F1 (enumD ds) where
  go := fun i d F H s e su ok => by
    unfold enumD at e
    rw [List.getElem?_mapIdx] at e
    cases q : ds[i]? with
    | none => rw [q] at e; cases e
    | some d' =>
      rw [q] at e; cases e
      obtain ⟨v, e1, r1⟩ := r.get q
      have hs : SqL K H a vs := .inl (.inl (ok.sub _ _ (su _ _ h)))
      refine ⟨⟨vs, v, hs, e1⟩, fun x H' y => ?_⟩
      obtain ⟨T, x', rfl, hT, rfl, y⟩ := y
      have ex : x' = v := Option.some.inj ((y vs hs).symm.trans e1)
      subst ex
      obtain ⟨st, ok'⟩ := ok.newF (o := .tup [.int (i : Nat), x']) hT (fun ps z => by cases z)
      exact ⟨_, st, ok', T, _, rfl, .inl (.inl upd_same), .cons rfl (.cons (Rep.mono (su.trans st.sub) _ _ r1) .nil)⟩
  stop := fun i F H s e su ok => ⟨vs, .inl (.inl (ok.sub _ _ (su _ _ h))), by rw [r.len]; simpa [enumD] using e⟩
end
section
variable {X : Cx} {g : Gh} {W : WX} {pos : Pos} {tg a b : Expr} {fa : ME} {fl : ML}
/-- a list or a tuple, by what it is -/
def tSq (K : PySem.W.Frag) (tl : TE) : TI := fun σ H R' => tl σ H fun x H1 => ∃ p, x = .ref p ∧ (((∃ xs, SqL K H1 p xs) ∧ R' (Itl K p) H1) ∨ ((∃ xs, SqT K H1 p xs) ∧ R' (Itt K p) H1))
theorem pi_sq {tl : TE} (ha : PE X a tl) : PI X tg a (tSq X.K tl) := by
  constructor
  intro pins s σ H R' I h
  refine thn (ha.run pins s σ H _ I h) ?_
  rintro v t ⟨x, G, J, rx, p, rfl, hp⟩
  obtain rfl : v = Value.ref p := rx
  have nu : ∀ c ∈ [t.heap.objs.size], FpOk X pins G c := fun c hc => by
    obtain rfl : c = t.heap.objs.size := by simpa using hc
    exact J.fpOk (Nat.le_refl _) (J.hok.fresh (Nat.le_refl _))
  have gr : ∀ o : Obj, Inv X pins σ G { t with heap := t.heap.push o } := fun o => J.kept (t' := t.toks) fun c u q => Heap.get?_push_of_some _ q
  rcases hp with ⟨⟨ys, hy⟩, q⟩ | ⟨⟨ys, hy⟩, q⟩
  · obtain ⟨its, _, pl, _⟩ := J.list hy
    exact wpAny_pyIter_list pl.isList ⟨_, _, _, _, G, rfl, gr _, turn_list p _, ⟨_, Heap.get?_push_size _ rfl, rfl, rfl⟩, nu, q⟩
  · obtain ⟨its, _, pl, _⟩ := J.tuple hy
    exact wpAny_pyIter_tuple (show t.heap.IsTuple p its.toArray from pl) ⟨_, _, _, _, G, rfl, gr _, turn_tuple p _, ⟨_, Heap.get?_push_size _ rfl, rfl, rfl⟩, nu, q⟩
def evSeq (fa : ME) : ML := fun z => (fa z).bind fun d z1 => match d with
  | .lst ds => .ok ds z1
  | .tup ds => .ok ds z1
  | _ => .stuck
theorem di_seq (ha : DE X g W a fa) : DI X g W tg a (evSeq fa) := by
  refine PI_weak (pi_sq ha) fun σ H R' ⟨F0, H0, F, z, n, q⟩ => ⟨F0, H0, F, z, n, (E1.bindI q).imp fun v H1 ⟨d, z1, F1, a1, r1, _, h1⟩ => ?_⟩
  split at h1
  · obtain ⟨p, vs, rfl, s1, s2⟩ := r1
    exact ⟨p, rfl, .inl ⟨⟨vs, .inl (.inl (a1.now.ok.sub _ _ s1))⟩, h1 F1 H1 _ (Aft.refl a1.now) (ItD.list s1 s2)⟩⟩
  · obtain ⟨p, vs, rfl, s1, s2⟩ := r1
    exact ⟨p, rfl, .inr ⟨⟨vs, a1.now.ok.sub.sqT s1⟩, h1 F1 H1 _ (Aft.refl a1.now) (ItD.tup s1 s2)⟩⟩
  · exact h1.elim
def evRng1 (fl : ML) : ML := fun z => (fl z).bind fun ds z1 => match ds with
  | [.int j] => if -4611686018427387904 ≤ j ∧ j < 4611686018427387904 then .ok (rangeD 0 j.toNat) z1 else .stuck
  | _ => .stuck
theorem di_range1 {p : Pos} (hg : Gl X "range") (hm : X.mg "range" = none) (ha : DA X g W [a] fl) (hs : starEach [a] X.env = [(false, eval a X.env)] := by rfl) : DI X g W tg (.Call (.Name "range" p) [a] [] pos) (evRng1 fl) := by
  refine PI_weak (pi_range1 hg hm ha hs) fun σ H R' ⟨F0, H0, F, z, n, q⟩ => ⟨F0, H0, F, z, n, (EL.bindI q).imp fun v H1 ⟨d, z1, F1, a1, r1, _, h1⟩ => ?_⟩
  split at h1
  · split at h1
    · rename_i hl
      obtain ⟨v, rfl, h2⟩ := reps1 r1
      cases h2
      exact ⟨_, rfl, hl.1, hl.2, h1 F1 H1 _ (Aft.refl a1.now) ItD.range⟩
    · exact h1.elim
  · exact h1.elim
def evRng2 (fl : ML) : ML := fun z => (fl z).bind fun ds z1 => match ds with
  | [.int i, .int j] => if (-4611686018427387904 ≤ i ∧ i < 4611686018427387904) ∧ -4611686018427387904 ≤ j ∧ j < 4611686018427387904 then .ok (rangeD i (j - i).toNat) z1 else .stuck
  | _ => .stuck
theorem di_range2 {p : Pos} (hg : Gl X "range") (hm : X.mg "range" = none) (ha : DA X g W [a, b] fl) (hs : starEach [a, b] X.env = [(false, eval a X.env), (false, eval b X.env)] := by rfl) (hs2 : starEach [b] X.env = [(false, eval b X.env)] := by rfl) : DI X g W tg (.Call (.Name "range" p) [a, b] [] pos) (evRng2 fl) := by
  refine PI_weak (pi_range2 hg hm ha hs hs2) fun σ H R' ⟨F0, H0, F, z, n, q⟩ => ⟨F0, H0, F, z, n, (EL.bindI q).imp fun v H1 ⟨d, z1, F1, a1, r1, _, h1⟩ => ?_⟩
  split at h1
  · split at h1
    · rename_i hl
      obtain ⟨v, r, rfl, h2, h3⟩ := r1
      obtain ⟨w, rfl, h4⟩ := reps1 h3
      cases h2; cases h4
      exact ⟨_, _, rfl, ⟨hl.1.1, hl.1.2, hl.2.1, hl.2.2⟩, h1 F1 H1 _ (Aft.refl a1.now) ItD.range⟩
    · exact h1.elim
  · exact h1.elim
def evEnum (fl : ML) : ML := fun z => (fl z).bind fun ds z1 => match ds with
  | [.lst es] => .ok (enumD es) z1
  | _ => .stuck
theorem di_enum {p tpos : Pos} {elts : List Expr} {kk : Nat} (hg : Gl X "enumerate") (hm : X.mg "enumerate" = none) (ha : DA X g W [a] fl) (hs : starEach [a] X.env = [(false, eval a X.env)] := by rfl) : DI X g W (.Tuple elts kk tpos) (.Call (.Name "enumerate" p) [a] [] pos) (evEnum fl) := by
  refine PI_weak (pi_enum hg hm ha hs) fun σ H R' ⟨F0, H0, F, z, n, q⟩ => ⟨F0, H0, F, z, n, (EL.bindI q).imp fun v H1 ⟨d, z1, F1, a1, r1, _, h1⟩ => ?_⟩
  split at h1
  · obtain ⟨v, rfl, p, vs, rfl, s1, s2⟩ := reps1 r1
    exact ⟨p, vs, rfl, .inl (.inl (a1.now.ok.sub _ _ s1)), h1 F1 H1 _ (Aft.refl a1.now) (ItD.enum s1 s2)⟩
  · exact h1.elim
end

/-! ### targets -/
abbrev MG := D → List SV → Option (List SV)
section
variable (K : PySem.W.Frag) (mg : Str → Option Value) (g : Gh)
/-- what a target leaves of the slots: those of vs alone are changed, no own list comes to be -/
structure TgTo (vs : List Nat) (ρ ρ' : List SV) (σ σ' : L2.St) : Prop where
  wp : wipe σ' vs = wipe σ vs
  own : ∀ (j : Nat) (es : List D), ρ'[j]? = some (.own es) → ρ[j]? = some (.own es)
theorem TgTo.refl {vs : List Nat} {ρ : List SV} {σ : L2.St} : TgTo vs ρ ρ σ σ := ⟨rfl, fun _ _ e => e⟩
theorem TgTo.trans {vs : List Nat} {ρ ρ1 ρ2 : List SV} {σ σ1 σ2 : L2.St} (a : TgTo vs ρ ρ1 σ σ1) (b : TgTo vs ρ1 ρ2 σ1 σ2) : TgTo vs ρ ρ2 σ σ2 := ⟨b.wp.trans a.wp, fun j es e => a.own j es (b.own j es e)⟩
def RdG (vs : List Nat) (f : MG) : TG := fun v σ H Q => ∃ F0 H0 F z d ρ', Now K mg g F0 H0 F H z σ ∧ Rep K mg g F d v ∧ f d z.ρ = some ρ' ∧ ∀ σ', Now K mg g F0 H0 F H ⟨ρ', z.s⟩ σ' → TgTo vs z.ρ ρ' σ σ' → Q σ' H
end
theorem wipe_set {i : Nat} {x : Option V} : ∀ {vs : List Nat} {σ : L2.St}, i ∈ vs → wipe (σ.set i x) vs = wipe σ vs
  | [], _, h => by cases h
  | v :: vs, σ, h => by
    show (wipe (σ.set i x) vs).set v none = (wipe σ vs).set v none
    by_cases hi : i ∈ vs
    · rw [wipe_set hi]
    · obtain rfl : i = v := by
        rcases List.mem_cons.mp h with e | e
        · exact e
        · exact absurd e hi
      have : ∀ {ws : List Nat}, i ∉ ws → wipe (σ.set i x) ws = (wipe σ ws).set i x := by
        intro ws
        induction ws with
        | nil => intro _; rfl
        | cons w ws ih =>
          intro hn
          have h1 : i ≠ w := fun e => hn (by simp [e])
          have h2 : i ∉ ws := fun e => hn (by simp [e])
          show (wipe (σ.set i x) ws).set w none = ((wipe σ ws).set w none).set i x
          rw [ih h2, List.set_comm _ _ h1]
      rw [this hi, List.set_set]
abbrev DG (X : Cx) (g : Gh) (vs : List Nat) (tg : Expr) (f : MG) : Prop := PG X tg (RdG X.K X.mg g vs f)
theorem PG_weak {X : Cx} {tg : Expr} {t t' : TG} (h : PG X tg t) (w : ∀ v σ H Q, t' v σ H Q → t v σ H Q) : PG X tg t' := ⟨fun pins s σ H v u Q I r q => h.run pins s σ H v u Q I r (w v σ H Q q)⟩
section
variable {K : PySem.W.Frag} {mg : Str → Option Value} {g : Gh} {F0 H0 F H : Hp} {σ : L2.St} {z : Z}
theorem Now.set {d : D} {v : V} (n : Now K mg g F0 H0 F H z σ) (i : Nat) (r : Rep K mg g F d v) : Now K mg g F0 H0 F H ⟨z.ρ.set i (.d d), z.s⟩ (σ.set i (some v)) := by
  have ii : ∀ {j : Nat} {x : SV}, (z.ρ.set i (.d d))[j]? = some x → (j = i ∧ x = .d d ∧ (σ.set i (some v))[j]? = some (some v)) ∨ (j ≠ i ∧ z.ρ[j]? = some x ∧ (σ.set i (some v))[j]? = σ[j]?) := fun {j x} e => by
    by_cases hj : j = i
    · subst hj
      have hl : j < z.ρ.length := by
        have := (List.getElem?_eq_some_iff.mp e).1
        simpa using this
      rw [List.getElem?_set_self hl] at e
      cases e
      exact .inl ⟨rfl, rfl, List.getElem?_set_self (by rw [← n.sl.len]; exact hl)⟩
    · rw [List.getElem?_set_ne (Ne.symm hj)] at e
      exact .inr ⟨hj, e, List.getElem?_set_ne (Ne.symm hj)⟩
  refine ⟨n.st, n.ok, by simpa using n.sl.len, fun j x e => ?_, fun j k ds es e1 e2 q => ?_⟩
  · rcases ii e with ⟨_, rfl, e2⟩ | ⟨_, e1, e2⟩
    · exact ⟨v, e2, r⟩
    · rw [e2]; exact n.sl.at_ j x e1
  · rcases ii e1 with ⟨_, e, _⟩ | ⟨_, e1', q1⟩
    · cases e
    · rcases ii e2 with ⟨_, e, _⟩ | ⟨_, e2', q2⟩
      · cases e
      · rw [q1, q2] at q
        exact n.sl.dis j k ds es e1' e2' q
end
section
variable {X : Cx} {g : Gh} {W : WX} {pos : Pos}
def tgName (i : Nat) : MG := fun d ρ => some (ρ.set i (.d d))
theorem dg_name {vs : List Nat} {i : Nat} {x : Str} (hv : i ∈ vs) (hN : X.N.Nodup) (hi : X.N[i]? = some x) (hx : Loc X.env.scope x) (hf : X.fn x = true ∨ X.env.scope.names.lookup x = some .local := by first | exact .inl rfl | exact .inr rfl | assumption) : DG X g vs (.Name x pos) (tgName i) :=
  PG_weak (pg_name hN hi hx hf) fun v σ H Q ⟨F0, H0, F, z, d, ρ', n, r, e, q⟩ => by
    cases e
    refine q _ (n.set i r) ⟨wipe_set hv, fun j es ej => ?_⟩
    by_cases hj : j = i
    · subst hj
      have hl : j < z.ρ.length := by
        have := (List.getElem?_eq_some_iff.mp ej).1
        simpa using this
      rw [List.getElem?_set_self hl] at ej
      cases ej
    · rwa [List.getElem?_set_ne (Ne.symm hj)] at ej
abbrev MGs := List D → List SV → Option (List SV)
def RdGs (K : PySem.W.Frag) (mg : Str → Option Value) (g : Gh) (ws : List Nat) (f : MGs) : TGs := fun vs σ H Q => ∃ F0 H0 F z ds ρ', Now K mg g F0 H0 F H z σ ∧ Reps K mg g F ds vs ∧ f ds z.ρ = some ρ' ∧ ∀ σ', Now K mg g F0 H0 F H ⟨ρ', z.s⟩ σ' → TgTo ws z.ρ ρ' σ σ' → Q σ' H
abbrev DGs (X : Cx) (g : Gh) (ws : List Nat) (ts : List Expr) (f : MGs) : Prop := PGs X ts (RdGs X.K X.mg g ws f)
theorem PGs_weak {X : Cx} {tg : List Expr} {t t' : TGs} (h : PGs X tg t) (w : ∀ v σ H Q, t' v σ H Q → t v σ H Q) : PGs X tg t' := ⟨fun pins s σ H v u Q I r q => h.run pins s σ H v u Q I r (w v σ H Q q)⟩
def tgNil : MGs := fun ds ρ => match ds with
  | [] => some ρ
  | _ => none
def tgCons (f : MG) (fs : MGs) : MGs := fun ds ρ => match ds with
  | d :: r => (f d ρ).bind fun ρ' => fs r ρ'
  | [] => none
theorem dgs_nil {ws : List Nat} : DGs X g ws [] tgNil := PGs_weak pgs_nil fun v σ H Q ⟨F0, H0, F, z, ds, ρ', n, r, e, q⟩ => by
  unfold tgNil at e
  split at e
  · cases e; cases r
    exact ⟨rfl, q σ n TgTo.refl⟩
  · cases e
theorem dgs_cons {ws : List Nat} {e : Expr} {es : List Expr} {f : MG} {fs : MGs} (h1 : DG X g ws e f) (h2 : DGs X g ws es fs) (hs : (assignEach (e :: es) X.env).map (·.2) = assign e X.env :: (assignEach es X.env).map (·.2) := by rfl) : DGs X g ws (e :: es) (tgCons f fs) :=
  PGs_weak (pgs_cons h1 h2 hs) fun v σ H Q ⟨F0, H0, F, z, ds, ρ', n, r, e, q⟩ => by
    unfold tgCons at e
    split at e
    · rename_i d ds
      obtain ⟨w, us, rfl, r1, r2⟩ := r
      cases e1 : f d z.ρ with
      | none => rw [e1] at e; cases e
      | some ρ1 =>
        rw [e1] at e
        exact ⟨w, us, rfl, F0, H0, F, z, d, ρ1, n, r1, e1, fun σ' n' t => ⟨F0, H0, F, ⟨ρ1, z.s⟩, ds, ρ', n', r2, e, fun σ'' n'' t' => q σ'' n'' (t.trans t')⟩⟩
    · cases e
/-- a, b = a tuple -/
def tgTup (k : Nat) (fs : MGs) : MG := fun d ρ => match d with
  | .tup ds => if ds.length = k then fs ds ρ else none
  | _ => none
theorem dg_tup {ws : List Nat} {es : List Expr} {kk k : Nat} {fs : MGs} (hc : X.calm = true) (h : DGs X g ws es fs) (hn : (assignEach es X.env).length = k := by rfl) (hst : (assignEach es X.env).findIdx? (·.1) = none := by rfl) : DG X g ws (.Tuple es kk pos) (tgTup k fs) :=
  PG_weak (pg_tup hc h hn hst) fun v σ H Q ⟨F0, H0, F, z, d, ρ', n, r, e, q⟩ => by
    unfold tgTup at e
    split at e
    · split at e
      · rename_i hl
        obtain ⟨p, vs, rfl, s1, s2⟩ := r
        exact ⟨p, vs, rfl, n.ok.sub.sqT s1, by rw [s2.len]; exact hl, F0, H0, F, z, _, ρ', n, s2, e, q⟩
      · cases e
    · cases e
/-- a, b = a list -/
def tgLst (k : Nat) (fs : MGs) : MG := fun d ρ => match d with
  | .lst ds => if ds.length = k then fs ds ρ else none
  | _ => none
theorem dg_lst {ws : List Nat} {es : List Expr} {kk k : Nat} {fs : MGs} (hc : X.calm = true) (h : DGs X g ws es fs) (hn : (assignEach es X.env).length = k := by rfl) (hst : (assignEach es X.env).findIdx? (·.1) = none := by rfl) : DG X g ws (.Tuple es kk pos) (tgLst k fs) :=
  PG_weak (pg_lst hc h hn hst) fun v σ H Q ⟨F0, H0, F, z, d, ρ', n, r, e, q⟩ => by
    unfold tgLst at e
    split at e
    · split at e
      · rename_i hl
        obtain ⟨p, vs, rfl, s1, s2⟩ := r
        exact ⟨p, vs, rfl, .inl (.inl (n.ok.sub _ _ s1)), by rw [s2.len]; exact hl, F0, H0, F, z, _, ρ', n, s2, e, q⟩
      · cases e
    · cases e
end
end DL

set_option Elab.async false
set_option linter.all false
set_option maxRecDepth 100000
set_option autoImplicit false
/-! DL6: list comprehensions. -/
namespace DL
open PySem PySem.Spec PyProof.Rows L2

def wipeR (ρ : List SV) : List Nat → List SV
  | [] => ρ
  | v :: vs => (wipeR ρ vs).set v .un
def keepD : SV → SV
  | .d d => .d d
  | _ => .un
def backR (ρ0 ρ : List SV) : List Nat → List SV
  | [] => ρ
  | v :: vs => (backR ρ0 ρ vs).set v (keepD (ρ0[v]?.getD .un))
theorem wipeR_len (ρ : List SV) : ∀ vs : List Nat, (wipeR ρ vs).length = ρ.length
  | [] => rfl
  | v :: vs => by show ((wipeR ρ vs).set v .un).length = _; rw [List.length_set, wipeR_len ρ vs]
theorem backR_len (ρ0 ρ : List SV) : ∀ vs : List Nat, (backR ρ0 ρ vs).length = ρ.length
  | [] => rfl
  | v :: vs => by show ((backR ρ0 ρ vs).set v _).length = _; rw [List.length_set, backR_len ρ0 ρ vs]
theorem wipeR_own {ρ : List SV} {j : Nat} {es : List D} : ∀ {vs : List Nat}, (wipeR ρ vs)[j]? = some (.own es) → ρ[j]? = some (.own es) ∧ j ∉ vs
  | [], h => ⟨h, by simp⟩
  | v :: vs, h => by
    have h : ((wipeR ρ vs).set v .un)[j]? = some (.own es) := h
    by_cases hj : v = j
    · subst hj
      by_cases hl : v < (wipeR ρ vs).length
      · rw [List.getElem?_set_self hl] at h; cases h
      · rw [List.getElem?_eq_none (by simpa using hl)] at h; cases h
    · rw [List.getElem?_set_ne hj] at h
      obtain ⟨h1, h2⟩ := wipeR_own h
      exact ⟨h1, by simp only [List.mem_cons, not_or]; exact ⟨fun e => hj e.symm, h2⟩⟩
theorem backR_at {ρ0 ρ : List SV} {j : Nat} {x : SV} : ∀ {vs : List Nat}, (backR ρ0 ρ vs)[j]? = some x → (j ∈ vs ∧ x = keepD (ρ0[j]?.getD .un)) ∨ (j ∉ vs ∧ ρ[j]? = some x)
  | [], h => .inr ⟨by simp, h⟩
  | v :: vs, h => by
    have h : ((backR ρ0 ρ vs).set v (keepD (ρ0[v]?.getD .un)))[j]? = some x := h
    by_cases hj : v = j
    · subst hj
      have hl : v < (backR ρ0 ρ vs).length := by
        have := (List.getElem?_eq_some_iff.mp h).1
        simpa using this
      rw [List.getElem?_set_self hl] at h
      exact .inl ⟨by simp, (Option.some.inj h).symm⟩
    · rw [List.getElem?_set_ne hj] at h
      rcases backR_at h with ⟨h1, h2⟩ | ⟨h1, h2⟩
      · exact .inl ⟨List.mem_cons_of_mem _ h1, h2⟩
      · exact .inr ⟨by simp only [List.mem_cons, not_or]; exact ⟨fun e => hj e.symm, h1⟩, h2⟩
theorem wipe_at {σ : L2.St} {w : Nat} : ∀ {us : List Nat}, w ∈ us → (wipe σ us).set w none = wipe σ us
  | [], h => by cases h
  | u :: us, h => by
    show ((wipe σ us).set u none).set w none = (wipe σ us).set u none
    by_cases e : w = u
    · rw [e, List.set_set]
    · have hw : w ∈ us := by
        rcases List.mem_cons.mp h with q | q
        · exact absurd q e
        · exact q
      rw [List.set_comm _ _ (Ne.symm e), wipe_at hw]
theorem wipe_wipe {σ : L2.St} {vs : List Nat} : wipe (wipe σ vs) vs = wipe σ vs := by
  have key : ∀ ws : List Nat, (∀ w ∈ ws, w ∈ vs) → wipe (wipe σ vs) ws = wipe σ vs := by
    intro ws
    induction ws with
    | nil => intro _; rfl
    | cons w ws ih =>
      intro hw
      show (wipe (wipe σ vs) ws).set w none = _
      rw [ih fun u hu => hw u (by simp [hu]), wipe_at (hw w (by simp))]
  exact key vs fun _ h => h
def lcL (vs : List Nat) (tg : MG) (ft : MT) (fe : ME) : List D → Z → R Z (List D)
  | [], z => .ok [] z
  | d :: r, z => match tg d z.ρ with
    | none => .stuck
    | some ρ' => (ft ⟨ρ', z.s⟩).bind fun b z2 => if b = true then (fe z2).bind fun e z3 => (lcL vs tg ft fe r ⟨wipeR z3.ρ vs, z3.s⟩).bind fun es z4 => .ok (e :: es) z4
      else lcL vs tg ft fe r ⟨wipeR z2.ρ vs, z2.s⟩
def noErr {α : Type} (r : R Z α) : R Z α := match r with
  | .ok a z => .ok a z
  | _ => .stuck
@[simp] theorem noErr_ok {α : Type} (a : α) (z : Z) : noErr (.ok a z : R Z α) = .ok a z := rfl
def evLc (vs : List Nat) (fi : ML) (tg : MG) (ft : MT) (fe : ME) : ML := fun z => (fi z).bind fun ds z1 => if ds.length ≤ 16777216 then
  (noErr (lcL vs tg ft fe ds ⟨wipeR z1.ρ vs, z1.s⟩)).bind fun out z2 => .ok out ⟨backR z1.ρ z2.ρ vs, z2.s⟩ else .stuck

section
variable {K : PySem.W.Frag} {mg : Str → Option Value} {g : Gh} {W : WX} {F0 H0 F H F' H' F1 H1 : Hp} {σ : L2.St} {z z' z1 : Z} {Q Q' : VK}
theorem EI.bindN {r : R Z (List D)} {f : List D → Z → R Z (List D)} (h : EN K mg g W F0 H0 σ F H z (r.bind f) Q) :
    EI K mg g W F0 H0 σ F H z r fun J H1 => ∃ d z1 F1, Aft K mg g F0 H0 F H z F1 H1 z1 σ ∧ ItD K mg g J F1 d ∧ r = .ok d z1 ∧ EN K mg g W F0 H0 σ F1 H1 z1 (f d z1) Q := by
  cases r with
  | ok d z2 => exact fun F' v H' a b => ⟨d, z2, F', a, b, rfl, EN.from a h⟩
  | err c z2 => exact h
  | stuck => exact h
theorem EI.imp {r : R Z (List D)} {R1 R2 : It → Hp → Prop} (h : EI K mg g W F0 H0 σ F H z r R1) (hq : ∀ J H, R1 J H → R2 J H) : EI K mg g W F0 H0 σ F H z r R2 := by
  cases r with
  | ok d z => exact fun F' H' J a b => hq _ _ (h F' H' J a b)
  | err c z => exact h
  | stuck => exact h
theorem Now.unset (n : Now K mg g F0 H0 F H z σ) (i : Nat) : Now K mg g F0 H0 F H ⟨z.ρ.set i .un, z.s⟩ (σ.set i none) := by
  have ii : ∀ {j : Nat} {x : SV}, (z.ρ.set i .un)[j]? = some x → x = .un ∨ (z.ρ[j]? = some x ∧ (σ.set i none)[j]? = σ[j]?) := fun {j x} e => by
    by_cases hj : j = i
    · subst hj
      have hl : j < z.ρ.length := by
        have := (List.getElem?_eq_some_iff.mp e).1
        simpa using this
      rw [List.getElem?_set_self hl] at e
      exact .inl (Option.some.inj e).symm
    · rw [List.getElem?_set_ne (Ne.symm hj)] at e
      exact .inr ⟨e, List.getElem?_set_ne (Ne.symm hj)⟩
  refine ⟨n.st, n.ok, by simpa using n.sl.len, fun j x e => ?_, fun j k ds es e1 e2 q => ?_⟩
  · rcases ii e with rfl | ⟨e1, e2⟩
    · trivial
    · rw [e2]; exact n.sl.at_ j x e1
  · rcases ii e1 with e | ⟨e1', q1⟩
    · cases e
    · rcases ii e2 with e | ⟨e2', q2⟩
      · cases e
      · rw [q1, q2] at q
        exact n.sl.dis j k ds es e1' e2' q
theorem Now.wipe (n : Now K mg g F0 H0 F H z σ) : ∀ vs : List Nat, Now K mg g F0 H0 F H ⟨wipeR z.ρ vs, z.s⟩ (L2.wipe σ vs)
  | [] => n
  | v :: vs => (n.wipe vs).unset v
/-- the list at p, no one's yet, is changed -/
theorem Now.updL {p : Addr} {xs ys : List V} (n : Now K mg g F0 H0 F H z σ) (hp : H p = some (.lst xs)) (hF : F p = none) (h0 : H0 p = none) (hd : g.a0 ≠ some p) (ns : ∀ (j : Nat) (es : List D), z.ρ[j]? = some (.own es) → σ[j]? ≠ some (some (.ref p))) :
    Now K mg g F0 H0 F (upd H p (.lst ys)) z σ := by
  have nt : ∀ {b : Addr} {ps : Array Value}, H b = some (.tbl ps) → b ≠ p := fun {b ps} e q => by rw [q, hp] at e; cases e
  have tb : ∀ {T : List (Addr × Str)}, LamX.Tabs T H → LamX.Tabs T (L2.upd H p (.lst ys)) := fun {T} t q hq => by
    obtain ⟨ps, e1, e2, e3⟩ := t q hq
    refine ⟨ps, by rw [upd_ne (nt e1)]; exact e1, e2, fun pos cv hc => ?_⟩
    obtain ⟨c, e4, e5⟩ := e3 pos cv hc
    refine ⟨c, e4, ?_⟩
    rw [upd_ne fun z => by rw [z, hp] at e5; unfold LamX.CodeO at e5; cases e5]
    exact e5
  refine ⟨⟨n.st.sub, fun b o e q => n.st.new b o e q, fun b o e h1 h2 => ?_, fun b e => ?_⟩, ⟨fun b o e => ?_, n.ok.nota, tb n.ok.tabs, fun P hP => ?_, n.ok.dF, fun a e => (by rw [upd_ne (fun z => hd (by rw [e, z]))]; exact n.ok.dice a e)⟩, n.sl.len, fun j x e => ?_, n.sl.dis⟩
  · rw [upd_ne fun z => by rw [z, h0] at e; cases e]; exact n.st.keep b o e h1 h2
  · by_cases hb : b = p
    · rw [hb, upd_same]; simp
    · rw [upd_ne hb]; exact n.st.there b e
  · rw [upd_ne fun z => by rw [z, hF] at e; cases e]; exact n.ok.sub b o e
  · obtain ⟨ps, e, k⟩ := n.ok.gtab P hP
    exact ⟨ps, by rw [upd_ne (nt e)]; exact e, k⟩
  · have h := n.sl.at_ j x e
    cases x with
    | un => trivial
    | d d => exact h
    | own es =>
      obtain ⟨a, vs, e1, e2, e3, e4, e5, e6⟩ := h
      have na : a ≠ p := fun z => ns j es e (by rw [e1, z])
      exact ⟨a, vs, e1, by rw [upd_ne na]; exact e2, e3, e4, e5, e6⟩
end

section
variable {X : Cx} {g : Gh} {W : WX} {pos : Pos} {elt tg iter : Expr} {ifs : List Expr} {scope : Scope} {own : List (Str × Nat)} {fi : ML} {tgf : MG} {ft : MT} {fe : ME}
/-- where a comprehension's loop stands -/
structure LcAt (X : Cx) (g : Gh) (F0 H0 F1 H1 : Hp) (z1 : Z) (σ : L2.St) (vs : List Nat) (p : Addr) (ds : List D) (tgf : MG) (ft : MT) (fe : ME) (out : List D) (z2 : Z) (i : Nat) (Hc Fc : Hp) (zc : Z) (acc : List V) (accD outs : List D) : Prop where
  now : Now X.K X.mg g F0 H0 Fc Hc zc (wipe σ vs)
  sub : Sub F1 Fc
  keep : Keep g H1 Hc
  there : ∀ b, H1 b ≠ none → Hc b ≠ none
  fz : ∀ b o, Fc b = some o → F1 b = none → H1 b = none ∨ (∃ (j : Nat) (es : List D), z1.ρ[j]? = some (.own es) ∧ σ[j]? = some (some (.ref b))) ∨ Kd o
  at_ : Hc p = some (.lst acc)
  nF : Fc p = none
  reps : Reps X.K X.mg g Fc accD acc
  len : acc.length ≤ i
  own : ∀ (j : Nat) (es : List D), zc.ρ[j]? = some (.own es) → z1.ρ[j]? = some (.own es)
  run : lcL vs tgf ft fe (ds.drop i) zc = .ok outs z2
  all : accD ++ outs = out
theorem lc_use {vs : List Nat} {σ : L2.St} {H : Hp} {Q : VK} (h0 : RdN X.K X.mg g W (evLc vs fi tgf ft fe) σ H Q) :
    tLc (RdI X.K X.mg g W fi) (RdG X.K X.mg g vs tgf) (RdT X.K X.mg g (fun _ _ _ _ => False) ft) (RdE X.K X.mg g (fun _ _ _ _ => False) fe) vs σ H Q := by
  obtain ⟨F0, H0, F, z, n, h⟩ := h0
  refine ⟨F0, H0, F, z, n, (EI.bindN h).imp fun J H1 ⟨ds, z1, F1, a1, it, _, h1⟩ => fun p hp => ?_⟩
  split at h1
  case isFalse => exact h1.elim
  rename_i hlen
  cases hr : lcL vs tgf ft fe ds ⟨wipeR z1.ρ vs, z1.s⟩ with
  | stuck => rw [hr] at h1; exact h1.elim
  | err c z2 => rw [hr] at h1; exact h1.elim
  | ok out z2 =>
  rw [hr, noErr_ok, R.bind_ok] at h1
  have hd : g.a0 ≠ some p := fun e => absurd hp (by rw [a1.now.ok.dice p e]; simp)
  obtain ⟨a2, nF, n0, _⟩ := a1.now.newO (o := .lst []) hp
  -- an own list of z1 is not the new one
  have apart : ∀ {j : Nat} {es : List D}, z1.ρ[j]? = some (.own es) → σ[j]? ≠ some (some (.ref p)) := fun {j es} e q => by
    obtain ⟨b, vs', e1, e2, _⟩ := a1.now.sl.at_ j _ e
    rw [q] at e1; cases e1
    rw [hp] at e2; cases e2
  refine ⟨fun i m Hc => m = ds.length - i ∧ i ≤ ds.length ∧ ∃ Fc zc acc accD outs, LcAt X g F0 H0 F1 H1 z1 σ vs p ds tgf ft fe out z2 i Hc Fc zc acc accD outs,
    ⟨ds.length, rfl, Nat.zero_le _, F1, ⟨wipeR z1.ρ vs, z1.s⟩, [], [], out, a2.now.wipe vs, Sub.refl F1, a2.keep, a2.there, fun b o e q => .inl (by rw [e] at q; cases q), upd_same, nF, .nil, Nat.zero_le _, fun j es e => (wipeR_own e).1, hr, rfl⟩, ?_⟩
  rintro i m Hc ⟨rfl, hile, Fc, zc, acc, accD, outs, L⟩
  have sw : ∀ {j : Nat} {es : List D}, zc.ρ[j]? = some (.own es) → j ∉ vs ∧ (wipe σ vs)[j]? = σ[j]? := fun {j es} e => by
    obtain ⟨b, _, e1, _⟩ := L.now.sl.at_ j _ e
    obtain ⟨h1, h2⟩ := wipe_some e1
    exact ⟨h2, by rw [e1, h1]⟩
  have ap2 : ∀ {j : Nat} {es : List D}, zc.ρ[j]? = some (.own es) → (wipe σ vs)[j]? ≠ some (some (.ref p)) := fun {j es} e q => apart (L.own j es e) (by rw [← (sw e).2]; exact q)
  by_cases hlt : i < ds.length
  · refine .inr ?_
    have hd' : ds[i]? = some ds[i] := List.getElem?_eq_getElem hlt
    obtain ⟨go, yl⟩ := it.go i ds[i] Fc Hc zc.s hd' L.sub L.now.ok
    refine ⟨go, fun H' => i + 1 ≤ ds.length ∧ ∃ Fc zc acc accD outs, LcAt X g F0 H0 F1 H1 z1 σ vs p ds tgf ft fe out z2 (i + 1) H' Fc zc acc accD outs, fun H' ⟨q1, q2⟩ => ⟨ds.length - (i + 1), by omega, rfl, q1, q2⟩, fun x H' y => ?_⟩
    obtain ⟨F', st, ok', rx⟩ := yl x H' y
    have a3 := L.now.aft st ok'
    have er := L.run
    rw [List.drop_eq_getElem_cons hlt] at er
    unfold lcL at er
    cases etg : tgf ds[i] zc.ρ with
    | none => rw [etg] at er; cases er
    | some ρ' =>
    rw [etg] at er
    refine ⟨F0, H0, F', _, ds[i], ρ', a3.now, rx, etg, fun σ' n1 tt => ⟨tt.wp.trans wipe_wipe, F0, H0, F', _, n1, ?_⟩⟩
    have er : (ft ⟨ρ', zc.s⟩).bind (fun b z2 => if b = true then (fe z2).bind fun e z3 => (lcL vs tgf ft fe (ds.drop (i + 1)) ⟨wipeR z3.ρ vs, z3.s⟩).bind fun es z4 => .ok (e :: es) z4
      else lcL vs tgf ft fe (ds.drop (i + 1)) ⟨wipeR z2.ρ vs, z2.s⟩) = .ok outs z2 := er
    show ET X.K X.mg g _ F0 H0 σ' F' H' _ (ft ⟨ρ', zc.s⟩) _
    have wpe : wipe σ' vs = wipe σ vs := tt.wp.trans wipe_wipe
    -- what a turn may do, seen from its begin
    have turn : ∀ {Fx Hx : Hp} {zx : Z}, Aft X.K X.mg g F0 H0 F' H' ⟨ρ', zc.s⟩ Fx Hx zx σ' → Hx p = some (.lst acc) ∧ Fx p = none ∧ Sub Fc Fx ∧ Keep g H1 Hx ∧ (∀ b, H1 b ≠ none → Hx b ≠ none) ∧ (∀ b o, Fx b = some o → F1 b = none → H1 b = none ∨ (∃ (j : Nat) (es : List D), z1.ρ[j]? = some (.own es) ∧ σ[j]? = some (some (.ref b))) ∨ Kd o) ∧
        (∀ (j : Nat) (es : List D), zx.ρ[j]? = some (.own es) → zc.ρ[j]? = some (.own es)) ∧ ∀ (j : Nat) (es : List D), zx.ρ[j]? = some (.own es) → σ'[j]? ≠ some (some (.ref p)) := fun {Fx Hx zx} af => by
      have ow : ∀ {j : Nat} {es : List D}, ρ'[j]? = some (.own es) → zc.ρ[j]? = some (.own es) ∧ σ'[j]? = σ[j]? := fun {j es} e => by
        have e0 := tt.own j es e
        obtain ⟨s1, s2⟩ := sw e0
        refine ⟨e0, ?_⟩
        have : (wipe σ' vs)[j]? = (wipe σ vs)[j]? := by rw [wpe]
        rw [wipe_out s1, s2] at this
        exact this
      refine ⟨af.keep _ _ (a3.keep _ _ L.at_ (fun ps q => by cases q) hd) (fun ps q => by cases q) hd, ?_, a3.sub.trans af.sub, L.keep.trans (a3.keep.trans af.keep), fun b h => af.there b (a3.there b (L.there b h)), fun b o e q => ?_, fun j es e => (ow (af.own j es e)).1, fun j es e q => ?_⟩
      · cases q : Fx p with
        | none => rfl
        | some u =>
          have pF : F' p = none := by
            cases q : F' p with
            | none => rfl
            | some u =>
              rcases st.new p u q L.nF with h | h
              · rw [L.at_] at h; cases h
              · have e2 := ok'.sub p u q
                rw [a3.keep _ _ L.at_ (fun ps q => by cases q) hd] at e2
                cases e2
                exact absurd rfl h.no
          rcases af.fz p u q pF with h | ⟨j, es, h1, h2⟩ | h
          · exact absurd h (a3.there p (by rw [L.at_]; simp))
          · have := apart (L.own j es (ow h1).1)
            rw [(ow h1).2] at h2
            exact absurd h2 this
          · have e2 := af.now.ok.sub p u q
            rw [af.keep _ _ (a3.keep _ _ L.at_ (fun ps q => by cases q) hd) (fun ps q => by cases q) hd] at e2
            cases e2
            exact absurd rfl h.no
      · cases q1 : F' b with
        | none =>
          rcases af.fz b o e q1 with h | ⟨j, es, h1, h2⟩ | h
          · cases q2 : H1 b with
            | none => exact .inl rfl
            | some u => exact absurd h (a3.there b (L.there b (by rw [q2]; simp)))
          · rw [(ow h1).2] at h2
            exact .inr (.inl ⟨j, es, L.own j es (ow h1).1, h2⟩)
          · exact .inr (.inr h)
        | some u =>
          have eu := af.sub b u q1
          rw [e] at eu; cases eu
          cases q2 : Fc b with
          | some u2 =>
            have eu := st.sub b u2 q2
            rw [q1] at eu; cases eu
            exact L.fz b _ q2 q
          | none =>
            rcases st.new b _ q1 q2 with h | h
            · cases q3 : H1 b with
              | none => exact .inl rfl
              | some u => exact absurd h (L.there b (by rw [q3]; simp))
            · exact .inr (.inr h)
      · have h1 := ow (af.own j es e)
        rw [h1.2] at q
        exact apart (L.own j es h1.1) q
    cases e1 : ft ⟨ρ', zc.s⟩ with
    | stuck => rw [e1] at er; cases er
    | err c z' => rw [e1] at er; cases er
    | ok b zt =>
    rw [e1, R.bind_ok] at er
    intro F2 H2 af
    cases b with
    | false =>
      simp only [Bool.false_eq_true, if_false] at er ⊢
      obtain ⟨t1, t2, t3, t4, t5, t6, t7, t8⟩ := turn af
      refine ⟨by omega, F2, ⟨wipeR zt.ρ vs, zt.s⟩, acc, accD, outs, ?_, L.sub.trans t3, t4, t5, t6, t1, t2, Reps.mono t3 _ _ L.reps, Nat.le_succ_of_le L.len, fun j es e => L.own j es (t7 j es (wipeR_own e).1), er, L.all⟩
      have := af.now.wipe vs
      rwa [wpe] at this
    | true =>
      simp only [if_true] at er ⊢
      refine ⟨F0, H0, F2, zt, af.now, ?_⟩
      cases e2 : fe zt with
      | stuck => rw [e2] at er; cases er
      | err c z' => rw [e2] at er; cases er
      | ok d ze =>
      rw [e2, R.bind_ok] at er
      intro F3 y H3 af2 ry
      obtain ⟨t1, t2, t3, t4, t5, t6, t7, t8⟩ := turn (af.trans af2)
      cases e3 : lcL vs tgf ft fe (ds.drop (i + 1)) ⟨wipeR ze.ρ vs, ze.s⟩ with
      | stuck => rw [e3] at er; cases er
      | err c z' => rw [e3] at er; cases er
      | ok outs' z4 =>
      rw [e3, R.bind_ok] at er
      cases er
      have hlA : acc.length < sizeLine := by rw [line_eq]; have := L.len; omega
      have nu := af2.now.updL (ys := acc ++ [y]) t1 t2 n0 hd t8
      refine ⟨acc, t1, hlA, by omega, F3, ⟨wipeR ze.ρ vs, ze.s⟩, acc ++ [y], accD ++ [d], outs', ?_, L.sub.trans t3, fun b o e h1 h2 => ?_, fun b h => ?_, t6, upd_same, t2, (Reps.mono t3 _ _ L.reps).append (.cons ry .nil), by simp; have := L.len; omega, fun j es e => L.own j es (t7 j es (wipeR_own e).1), e3, by rw [List.append_assoc]; exact L.all⟩
      · have := nu.wipe vs
        rwa [wpe] at this
      · rw [upd_ne (ne_of_none e hp)]; exact t4 b o e h1 h2
      · by_cases hb : b = p
        · rw [hb, upd_same]; simp
        · rw [upd_ne hb]; exact t5 b h
  · have hie : i = ds.length := by omega
    refine .inl ⟨it.stop i Fc Hc zc.s (by omega) L.sub L.now.ok, ?_⟩
    have er := L.run
    rw [hie, List.drop_length] at er
    cases er
    have eo : accD = out := by have := L.all; rwa [List.append_nil] at this
    subst eo
    have nb : ∀ {j : Nat} {es : List D}, (backR z1.ρ z2.ρ vs)[j]? = some (.own es) → j ∉ vs ∧ z2.ρ[j]? = some (.own es) := fun {j es} e => by
      rcases backR_at e with ⟨_, h⟩ | h
      · cases q : (z1.ρ[j]?.getD .un) <;> rw [q] at h <;> simp [keepD] at h
      · exact h
    refine h1 Fc p acc Hc ⟨⟨L.now.st, L.now.ok, ?_, fun j x e => ?_, fun j k es fs e1 e2 q => ?_⟩, L.sub, L.keep, fun j es e => L.own j es (nb e).2, L.there, L.fz⟩ L.at_ hp ⟨L.nF, n0, hd, fun j es e q => apart (L.own j es (nb e).2) q⟩ L.reps
    · show (backR z1.ρ z2.ρ vs).length = σ.length
      rw [backR_len, L.now.sl.len, wipe_length]
    · rcases backR_at e with ⟨h1, h2⟩ | ⟨h1, h2⟩
      · rw [h2]
        cases q : z1.ρ[j]? with
        | none => trivial
        | some u =>
          have := a1.now.sl.at_ j u q
          cases u with
          | un => trivial
          | d d =>
            obtain ⟨v, e1, e2⟩ := this
            exact ⟨v, e1, Rep.mono L.sub _ _ e2⟩
          | own es => trivial
      · have := L.now.sl.at_ j x h2
        rwa [wipe_out h1] at this
    · obtain ⟨h1, h2⟩ := nb e1
      obtain ⟨h3, h4⟩ := nb e2
      exact L.now.sl.dis j k es fs h2 h4 (by rw [wipe_out h1, wipe_out h3]; exact q)
theorem dn_lc (hc : X.calm = true) (hN : X.N.Nodup) (hi : DI X g W tg iter fi) (ok : BlkOk X.N X.env.scope scope own)
    (hg : ∀ (s : Shared) (H : Hp) (C : Addr) (cl : List (Str × Addr)) (fp : List Addr), DG (X.blk s H scope (compEnvC scope cl C X.env) fp) g (own.map (·.2)) tg tgf)
    (ht : ∀ (s : Shared) (H : Hp) (C : Addr) (cl : List (Str × Addr)) (fp : List Addr), PTs (X.blk s H scope (compEnvC scope cl C X.env) fp) ifs (RdT X.K X.mg g (fun _ _ _ _ => False) ft))
    (he : ∀ (s : Shared) (H : Hp) (C : Addr) (cl : List (Str × Addr)) (fp : List Addr), DE (X.blk s H scope (compEnvC scope cl C X.env) fp) g (fun _ _ _ _ => False) elt fe) (hs : ∀ x, foldedSetIterable iter X.env x = pure x := by intro _; rfl) :
    DN X g W (.ListComp elt [⟨tg, iter, ifs, 0⟩] scope pos) (evLc (own.map (·.2)) fi tgf ft fe) :=
  PE_weak (pe_lc (g := RdG X.K X.mg g (own.map (·.2)) tgf) (tt := RdT X.K X.mg g (fun _ _ _ _ => False) ft) (te := RdE X.K X.mg g (fun _ _ _ _ => False) fe) hc hN hi ok hg ht he hs) fun σ H Q h => lc_use h
end
end DL

set_option Elab.async false
set_option linter.all false
set_option maxRecDepth 100000
set_option autoImplicit false
/-! DL7: statements, defs. -/
namespace DL
open PySem PySem.Spec PyProof.Rows L2

section
variable (K : PySem.W.Frag) (mg : Str → Option Value) (g : Gh) (W : WX)
/-- what a statement's result means; Fs: what was frozen at its begin -/
def S2 (F0 H0 Fs : Hp) (r : R Z Fl) (D : Ends) : Prop := match r with
  | .ok .nx z' => ∀ F' σ' H', Sub Fs F' → Now K mg g F0 H0 F' H' z' σ' → D.nx σ' H'
  | .ok .bk z' => ∀ F' σ' H', Sub Fs F' → Now K mg g F0 H0 F' H' z' σ' → D.bk σ' H'
  | .ok .ct z' => ∀ F' σ' H', Sub Fs F' → Now K mg g F0 H0 F' H' z' σ' → D.ct σ' H'
  | .ok (.rt d) z' => ∀ F' v H', Sub Fs F' → Step g F0 H0 F' H' → Ok K g F' z'.s H' → Rep K mg g F' d v → D.rt v H'
  | .err c z' => ∀ F' σ' H' C, Step g F0 H0 F' H' → Ok K g F' z'.s H' → mg c = some (.ref C) → W (.ref C) none σ' H'
  | .stuck => False
def RdQ (f : MS) : TS := fun D σ H => ∃ F0 H0 F z, Now K mg g F0 H0 F H z σ ∧ S2 K mg g W F0 H0 F (f z) D
end
abbrev DQ (X : Cx) (g : Gh) (W : WX) (st : Stmt) (f : MS) : Prop := PS X st (RdQ X.K X.mg g W f)
abbrev DQs (X : Cx) (g : Gh) (W : WX) (st : List Stmt) (f : MS) : Prop := PSs X st (RdQ X.K X.mg g W f)
section
variable {K : PySem.W.Frag} {mg : Str → Option Value} {g : Gh} {W : WX} {F0 H0 F H F' H' F1 H1 Fs : Hp} {σ : L2.St} {z z' z1 : Z}
theorem S2.from {r : R Z Fl} {D : Ends} (a : Sub Fs F1) (h : S2 K mg g W F0 H0 Fs r D) : S2 K mg g W F0 H0 F1 r D := by
  cases r with
  | ok f z => cases f with
    | nx => exact fun F' σ' H' s n => h F' σ' H' (a.trans s) n
    | bk => exact fun F' σ' H' s n => h F' σ' H' (a.trans s) n
    | ct => exact fun F' σ' H' s n => h F' σ' H' (a.trans s) n
    | rt d => exact fun F' σ' H' s n => h F' σ' H' (a.trans s) n
  | err c z => exact h
  | stuck => exact h
theorem E1.bindS {r : R Z D} {f : D → Z → R Z Fl} {D : Ends} (h : S2 K mg g W F0 H0 F (r.bind f) D) :
    E1 K mg g W F0 H0 σ F H z r fun v H1 => ∃ d z1 F1, Aft K mg g F0 H0 F H z F1 H1 z1 σ ∧ Rep K mg g F1 d v ∧ r = .ok d z1 ∧ S2 K mg g W F0 H0 F1 (f d z1) D := by
  cases r with
  | ok d z2 => exact fun F' v H' a b => ⟨d, z2, F', a, b, rfl, S2.from a.sub h⟩
  | err c z2 => exact fun F' H' C a e => h F' σ H' C a.now.st a.now.ok e
  | stuck => exact h
theorem EL.bindS {r : R Z (List D)} {f : List D → Z → R Z Fl} {D : Ends} (h : S2 K mg g W F0 H0 F (r.bind f) D) :
    EL K mg g W F0 H0 σ F H z r fun v H1 => ∃ d z1 F1, Aft K mg g F0 H0 F H z F1 H1 z1 σ ∧ Reps K mg g F1 d v ∧ r = .ok d z1 ∧ S2 K mg g W F0 H0 F1 (f d z1) D := by
  cases r with
  | ok d z2 => exact fun F' v H' a b => ⟨d, z2, F', a, b, rfl, S2.from a.sub h⟩
  | err c z2 => exact fun F' H' C a e => h F' σ H' C a.now.st a.now.ok e
  | stuck => exact h
theorem EI.bindS {r : R Z (List D)} {f : List D → Z → R Z Fl} {D : Ends} (h : S2 K mg g W F0 H0 F (r.bind f) D) :
    EI K mg g W F0 H0 σ F H z r fun J H1 => ∃ d z1 F1, Aft K mg g F0 H0 F H z F1 H1 z1 σ ∧ ItD K mg g J F1 d ∧ r = .ok d z1 ∧ S2 K mg g W F0 H0 F1 (f d z1) D := by
  cases r with
  | ok d z2 => exact fun F' v H' a b => ⟨d, z2, F', a, b, rfl, S2.from a.sub h⟩
  | err c z2 => exact fun F' H' C a e => h F' σ H' C a.now.st a.now.ok e
  | stuck => exact h
theorem ET.bindS {r : R Z Bool} {f : Bool → Z → R Z Fl} {D : Ends} (h : S2 K mg g W F0 H0 F (r.bind f) D) :
    ET K mg g W F0 H0 σ F H z r fun b H1 => ∃ z1 F1, Aft K mg g F0 H0 F H z F1 H1 z1 σ ∧ r = .ok b z1 ∧ S2 K mg g W F0 H0 F1 (f b z1) D := by
  cases r with
  | ok d z2 => exact fun F' H' a => ⟨z2, F', a, rfl, S2.from a.sub h⟩
  | err c z2 => exact fun F' H' C a e => h F' σ H' C a.now.st a.now.ok e
  | stuck => exact h
theorem EN.bindS {r : R Z (List D)} {f : List D → Z → R Z Fl} {D : Ends} (h : S2 K mg g W F0 H0 F (r.bind f) D) :
    EN K mg g W F0 H0 σ F H z r fun v H1 => ∃ a vs ds z1 F1, v = .ref a ∧ H1 a = some (.lst vs) ∧ Fre g F1 H0 σ z1 a ∧ Aft K mg g F0 H0 F H z F1 H1 z1 σ ∧ Reps K mg g F1 ds vs ∧ r = .ok ds z1 ∧ S2 K mg g W F0 H0 F1 (f ds z1) D := by
  cases r with
  | ok d z2 => exact fun F' a vs H' af e1 e2 fr rr => ⟨a, vs, d, z2, F', rfl, e1, fr, af, rr, rfl, S2.from af.sub h⟩
  | err c z2 => exact fun F' H' C a e => h F' σ H' C a.now.st a.now.ok e
  | stuck => exact h
theorem EN.imp {r : R Z (List D)} {Q Q' : VK} (h : EN K mg g W F0 H0 σ F H z r Q) (hq : ∀ v H, Q v H → Q' v H) : EN K mg g W F0 H0 σ F H z r Q' := by
  cases r with
  | ok d z => exact fun F' a vs H' x1 x2 x3 x4 x5 => hq _ _ (h F' a vs H' x1 x2 x3 x4 x5)
  | err c z => exact h
  | stuck => exact h
theorem S2.next {D : Ends} (h : S2 K mg g W F0 H0 F (.ok .nx z) D) (n : Now K mg g F0 H0 F H z σ) : D.nx σ H := h F σ H (Sub.refl F) n
/-- a new list becomes a name's own -/
theorem Now.setOwn {a : Addr} {vs : List V} {ds : List D} (n : Now K mg g F0 H0 F H z σ) (i : Nat) (h : H a = some (.lst vs)) (fr : Fre g F H0 σ z a) (r : Reps K mg g F ds vs) :
    Now K mg g F0 H0 F H ⟨z.ρ.set i (.own ds), z.s⟩ (σ.set i (some (.ref a))) := by
  have ii : ∀ {j : Nat} {x : SV}, (z.ρ.set i (.own ds))[j]? = some x → (j = i ∧ x = .own ds ∧ (σ.set i (some (.ref a)))[j]? = some (some (.ref a))) ∨ (j ≠ i ∧ z.ρ[j]? = some x ∧ (σ.set i (some (.ref a)))[j]? = σ[j]?) := fun {j x} e => by
    by_cases hj : j = i
    · subst hj
      have hl : j < z.ρ.length := by
        have := (List.getElem?_eq_some_iff.mp e).1
        simpa using this
      rw [List.getElem?_set_self hl] at e
      cases e
      exact .inl ⟨rfl, rfl, List.getElem?_set_self (by rw [← n.sl.len]; exact hl)⟩
    · rw [List.getElem?_set_ne (Ne.symm hj)] at e
      exact .inr ⟨hj, e, List.getElem?_set_ne (Ne.symm hj)⟩
  refine ⟨n.st, n.ok, by simpa using n.sl.len, fun j x e => ?_, fun j k es fs e1 e2 q => ?_⟩
  · rcases ii e with ⟨_, rfl, e2⟩ | ⟨_, e1, e2⟩
    · exact ⟨a, vs, e2, h, fr.nF, fr.n0, fr.nd, r⟩
    · rw [e2]; exact n.sl.at_ j x e1
  · rcases ii e1 with ⟨rfl, e, q1⟩ | ⟨hj, e1', q1⟩
    · rcases ii e2 with ⟨rfl, _, _⟩ | ⟨_, e2', q2⟩
      · rfl
      · rw [q1, q2] at q
        exact absurd q.symm (fr.ns k fs e2')
    · rcases ii e2 with ⟨rfl, _, q2⟩ | ⟨_, e2', q2⟩
      · rw [q1, q2] at q
        exact absurd q (fr.ns j es e1')
      · rw [q1, q2] at q
        exact n.sl.dis j k es fs e1' e2' q
/-- an own list is changed -/
theorem Now.chgOwn {a : Addr} {vs ws : List V} {ds es : List D} {i : Nat} (n : Now K mg g F0 H0 F H z σ) (e : z.ρ[i]? = some (.own ds)) (eσ : σ[i]? = some (some (.ref a))) (h : H a = some (.lst vs)) (r : Reps K mg g F es ws) :
    Now K mg g F0 H0 F (L2.upd H a (.lst ws)) ⟨z.ρ.set i (.own es), z.s⟩ σ := by
  obtain ⟨a', vs', e1, e2, hF, h0, hd, _⟩ := n.sl.at_ i _ e
  rw [eσ] at e1; cases e1
  have hi : i < z.ρ.length := (List.getElem?_eq_some_iff.mp e).1
  -- without the name
  have n1 : Now K mg g F0 H0 F H ⟨z.ρ.set i .un, z.s⟩ σ := by
    have ii : ∀ {j : Nat} {x : SV}, (z.ρ.set i .un)[j]? = some x → x = .un ∨ z.ρ[j]? = some x := fun {j x} ex => by
      by_cases hj : j = i
      · subst hj
        rw [List.getElem?_set_self hi] at ex
        exact .inl (Option.some.inj ex).symm
      · rw [List.getElem?_set_ne (Ne.symm hj)] at ex
        exact .inr ex
    refine ⟨n.st, n.ok, by simpa using n.sl.len, fun j x ex => ?_, fun j k es fs e1 e2 q => ?_⟩
    · rcases ii ex with rfl | ex
      · trivial
      · exact n.sl.at_ j x ex
    · rcases ii e1 with ex | ex
      · cases ex
      · rcases ii e2 with ey | ey
        · cases ey
        · exact n.sl.dis j k es fs ex ey q
  have ns : ∀ (j : Nat) (fs : List D), (z.ρ.set i SV.un)[j]? = some (.own fs) → σ[j]? ≠ some (some (.ref a)) := fun j fs ej q => by
    by_cases hj : j = i
    · subst hj
      rw [List.getElem?_set_self hi] at ej
      cases ej
    · rw [List.getElem?_set_ne (Ne.symm hj)] at ej
      exact hj (n.sl.dis j i fs ds ej e (q.trans eσ.symm))
  have n2 := n1.updL (ys := ws) h hF h0 hd ns
  have n3 := n2.setOwn i (a := a) L2.upd_same ⟨hF, h0, hd, ns⟩ r
  rw [List.set_set] at n3
  have es' : σ.set i (some (.ref a)) = σ := by
    refine List.ext_getElem? fun j => ?_
    by_cases hj : j = i
    · subst hj
      rw [List.getElem?_set_self (by rw [← n.sl.len]; exact hi), eσ]
    · rw [List.getElem?_set_ne (Ne.symm hj)]
  rwa [es'] at n3
end

section
variable {X : Cx} {g : Gh} {W : WX} {pos : Pos} {a b c e tg iter : Expr} {fa fb fe : ME} {fl : ML} {ft : MT} {st : Stmt} {rest body : List Stmt} {fs fr : MS} {tgf : MG}
def evSet (i : Nat) (f : ME) : MS := fun z => (f z).bind fun d z1 => .ok .nx ⟨z1.ρ.set i (.d d), z1.s⟩
theorem dq_set {i : Nat} {x : Str} {pos' : Pos} (hN : X.N.Nodup) (hi : X.N[i]? = some x) (hx : Loc X.env.scope x) (he : DE X g W e fe) (hs : swapsWith e (some (.Name x pos')) pos.line X.env = pure false := by rfl) (hf : X.fn x = true ∨ X.env.scope.names.lookup x = some .local := by first | exact .inl rfl | exact .inr rfl | assumption) :
    DQ X g W (.Assign [.Name x pos'] e pos) (evSet i fe) :=
  PS_weak (ps_set hN hi hx he hs hf) fun D σ H ⟨F0, H0, F, z, n, h⟩ => ⟨F0, H0, F, z, n, (E1.bindS h).imp fun v H1 ⟨d, z1, F1, a1, r1, _, h1⟩ => h1.next (a1.now.set i r1)⟩
def evOwn (i : Nat) (f : ML) : MS := fun z => (f z).bind fun ds z1 => .ok .nx ⟨z1.ρ.set i (.own ds), z1.s⟩
theorem dq_own {i : Nat} {x : Str} {pos' : Pos} (hN : X.N.Nodup) (hi : X.N[i]? = some x) (hx : Loc X.env.scope x) (he : DN X g W e fl) (hs : swapsWith e (some (.Name x pos')) pos.line X.env = pure false := by rfl) (hf : X.fn x = true ∨ X.env.scope.names.lookup x = some .local := by first | exact .inl rfl | exact .inr rfl | assumption) :
    DQ X g W (.Assign [.Name x pos'] e pos) (evOwn i fl) :=
  PS_weak (ps_set hN hi hx he hs hf) fun D σ H ⟨F0, H0, F, z, n, h⟩ => ⟨F0, H0, F, z, n, (EN.bindS h).imp fun v H1 ⟨p, vs, ds, z1, F1, ev, e1, fr, a1, r1, _, h1⟩ => by
    subst ev
    exact h1.next (a1.now.setOwn i e1 fr r1)⟩
/-- name = [.. for ..] on one line -/
theorem dq_setLc {i : Nat} {x : Str} {pos' ppos : Pos} {elt : Expr} {ifs : List Expr} {scope : Scope} {own : List (Str × Nat)} {fi : ML} (hc : X.calm = true) (hN : X.N.Nodup) (hi : X.N[i]? = some x) (hx : X.env.scope.names.lookup x = some .local)
    (hsw : swapsWith (.ListComp elt [⟨tg, iter, ifs, 0⟩] scope ppos) (some (.Name x pos')) pos.line X.env = pure true) (hit : DI X g W tg iter fi) (ok : BlkOk X.N X.env.scope scope own)
    (hg : ∀ (s : Shared) (H : Hp) (C : Addr) (cl : List (Str × Addr)) (fp : List Addr), DG (X.blk s H scope (compEnvC scope cl C X.env) fp) g (own.map (·.2)) tg tgf)
    (ht : ∀ (s : Shared) (H : Hp) (C : Addr) (cl : List (Str × Addr)) (fp : List Addr), PTs (X.blk s H scope (compEnvC scope cl C X.env) fp) ifs (RdT X.K X.mg g (fun _ _ _ _ => False) ft))
    (he : ∀ (s : Shared) (H : Hp) (C : Addr) (cl : List (Str × Addr)) (fp : List Addr), DE (X.blk s H scope (compEnvC scope cl C X.env) fp) g (fun _ _ _ _ => False) elt fe) (hs : ∀ x, foldedSetIterable iter X.env x = pure x := by intro _; rfl) :
    DQ X g W (.Assign [.Name x pos'] (.ListComp elt [⟨tg, iter, ifs, 0⟩] scope ppos) pos) (evOwn i (evLc (own.map (·.2)) fi tgf ft fe)) :=
  PS_weak (ps_setLc (g := RdG X.K X.mg g (own.map Prod.snd) tgf) (tt := RdT X.K X.mg g (fun _ _ _ _ => False) ft) (te := RdE X.K X.mg g (fun _ _ _ _ => False) fe) hc hN hi hx hsw hit ok hg ht he hs) fun D σ H ⟨F0, H0, F, z, n, h⟩ => lc_use (Q := fun x H1 => gName i x σ H1 D.nx) ⟨F0, H0, F, z, n, (EN.bindS h).imp fun v H1 ⟨p, vs, ds, z1, F1, ev, e1, fr, a1, r1, _, h1⟩ => by
    subst ev
    exact h1.next (a1.now.setOwn i e1 fr r1)⟩
def evAsg (f : ME) (tgf : MG) : MS := fun z => (f z).bind fun d z1 => match tgf d z1.ρ with
  | some ρ' => .ok .nx ⟨ρ', z1.s⟩
  | none => .stuck
theorem dq_asg {vs : List Nat} (he : DE X g W e fe) (hg : DG X g vs tg tgf) (hs : swapsWithSole [tg] e pos.line X.env = pure false := by rfl) (hw : swappedStores [tg] e X.env = pure none := by rfl) (h1 : (assignEach [tg] X.env).map (·.2) = [assign tg X.env] := by rfl) :
    DQ X g W (.Assign [tg] e pos) (evAsg fe tgf) :=
  PS_weak (ps_asg he hg hs hw h1) fun D σ H ⟨F0, H0, F, z, n, h⟩ => ⟨F0, H0, F, z, n, (E1.bindS h).imp fun v H1 ⟨d, z1, F1, a1, r1, _, h1⟩ => by
    split at h1
    · rename_i ρ' er
      exact ⟨F0, H0, F1, z1, d, ρ', a1.now, r1, er, fun σ' n' _ => h1.next n'⟩
    · exact h1.elim⟩
def evPar (i j : Nat) (f : ML) : MS := fun z => (f z).bind fun ds z1 => match ds with
  | [d, e] => .ok .nx ⟨(z1.ρ.set i (.d d)).set j (.d e), z1.s⟩
  | _ => .stuck
theorem dq_par {i j : Nat} {x y : Str} {px py pt pv : Pos} {kt k2 : Nat} {hX : Prop} {T : TS} (hp : PS X st T) (hT : T = tPar i j (RdL X.K X.mg g W fl)) : DQ X g W st (evPar i j fl) := by
  subst hT
  refine PS_weak hp fun D σ H ⟨F0, H0, F, z, n, h⟩ => ⟨F0, H0, F, z, n, (EL.bindS h).imp fun v H1 ⟨d, z1, F1, a1, r1, _, h1⟩ => ?_⟩
  split at h1
  · obtain ⟨v, r, rfl, h2, h3⟩ := r1
    obtain ⟨w, rfl, h4⟩ := reps1 h3
    exact ⟨v, w, rfl, h1.next ((a1.now.set i h2).set j h4)⟩
  · exact h1.elim
def evDo (f : ME) : MS := fun z => (f z).bind fun _ z1 => .ok .nx z1
theorem dq_expr (he : DE X g W e fe) (hs : swapsWith e none pos.line X.env = pure false := by rfl) : DQ X g W (.Expr e pos) (evDo fe) :=
  PS_weak (ps_expr he hs) fun D σ H ⟨F0, H0, F, z, n, h⟩ => ⟨F0, H0, F, z, n, (E1.bindS h).imp fun v H1 ⟨d, z1, F1, a1, r1, _, h1⟩ => h1.next a1.now⟩
/-- xs.append(e) -/
def evApp (i : Nat) (f : ME) : MS := fun z => match z.ρ[i]? with
  | some (.own _) => (f z).bind fun d z1 => match z1.ρ[i]? with
    | some (.own ds) => if ds.length < 16777216 then .ok .nx ⟨z1.ρ.set i (.own (ds ++ [d])), z1.s⟩ else .stuck
    | _ => .stuck
  | _ => .stuck
theorem dq_app {i : Nat} {x : Str} {px apos cpos : Pos} (hN : X.N[i]? = some x) (hv : Vis X.env.scope x) (he : DE X g W e fe) (hd : (x == ("__debug__" : Str)) = false := by decide) (hcd : (x == ("__classdict__" : Str)) = false := by decide)
    (hbase : attributeBase (.Name x px) "append" X.env (eval (.Name x px) X.env) = eval (.Name x px) X.env := by rfl)
    (hfew : ((backTo cpos (starEach [e] X.env)).all (fun x => !x.1) && (backToKw cpos (keywordEach [] X.env)).all (fun x => x.1.isSome) && decide ([e].length + ([] : List Keyword).length + (if ([] : List Keyword).isEmpty then 0 else 1) < 30)) = true := by rfl)
    (hline : (apos.endLine == cpos.line) = true := by rfl) (hst : starEach [e] X.env = (false, eval e X.env) :: starEach [] X.env := by rfl)
    (hs : swapsWith (.Call (.Attribute (.Name x px) "append" apos) [e] [] cpos) none pos.line X.env = pure false := by rfl) :
    DQ X g W (.Expr (.Call (.Attribute (.Name x px) "append" apos) [e] [] cpos) pos) (evApp i fe) := by
  refine PS_weak (ps_expr (pe_bm PySem.F.plainAttrs_list PySem.F.slot_list_append PySem.F.type_list_append mt_append (pe_var hN hv hd hcd) (pa_cons he pa_nil hst) hbase hfew hline hst (by rfl)) hs) fun D σ H ⟨F0, H0, F, z, n, h⟩ => ?_
  unfold evApp at h
  split at h
  case h_2 => exact h.elim
  rename_i ds0 e0
  obtain ⟨p, vs, ep, q1, q2, q3, q4, q5⟩ := n.sl.at_ i _ e0
  refine ⟨.ref p, ep, .inl ⟨rfl, _, .inl (.inl q1)⟩, F0, H0, F, z, n, (E1.bindS h).imp fun v H1 ⟨d, z1, F1, a1, r1, _, h1⟩ => ?_⟩
  split at h1
  case h_2 => exact h1.elim
  rename_i ds e1
  split at h1
  case isFalse => exact h1.elim
  rename_i hl
  obtain ⟨p', vs', ep', q1', q2', q3', q4', q5'⟩ := a1.now.sl.at_ i _ e1
  rw [ep] at ep'; cases ep'
  exact ⟨p, vs', v, rfl, rfl, q1', by rw [line_eq, q5'.len]; exact hl, h1.next (a1.now.chgOwn e1 ep q1' (q5'.append (.cons r1 .nil)))⟩
def evIfS (t : MT) (fs fr : MS) : MS := fun z => (t z).bind fun b z1 => if b = true then fs z1 else fr z1
theorem dq_if {x y : List Stmt} (hc : DT X g W c ft) (ha : DQs X g W x fs) (hb : DQs X g W y fr) : DQ X g W (.If c x y pos) (evIfS ft fs fr) :=
  PS_weak (ps_if hc ha hb) fun D σ H ⟨F0, H0, F, z, n, h⟩ => ⟨F0, H0, F, z, n, (ET.bindS h).imp fun b H1 ⟨z1, F1, a1, _, h1⟩ => by
    cases b with
    | true => rw [if_pos rfl] at h1 ⊢; exact ⟨F0, H0, F1, z1, a1.now, h1⟩
    | false => rw [if_neg Bool.false_ne_true] at h1 ⊢; exact ⟨F0, H0, F1, z1, a1.now, h1⟩⟩
def evRet (f : ME) : MS := fun z => (f z).bind fun d z1 => .ok (.rt d) z1
theorem dq_ret (he : DE X g W e fe) : DQ X g W (.Return (some e) pos) (evRet fe) :=
  PS_weak (ps_ret he) fun D σ H ⟨F0, H0, F, z, n, h⟩ => ⟨F0, H0, F, z, n, (E1.bindS h).imp fun v H1 ⟨d, z1, F1, a1, r1, _, h1⟩ => h1 F1 v H1 (Sub.refl F1) a1.now.st a1.now.ok r1⟩
def evRetN : MS := fun z => .ok (.rt .non) z
theorem dq_retN : DQ X g W (.Return none pos) evRetN := PS_weak ps_retN fun D σ H ⟨F0, H0, F, z, n, h⟩ => h F .non H (Sub.refl F) n.st n.ok rfl
def evRaise (c : Str) : MS := fun z => .err c z
theorem dq_raise {x m : Str} {j : Nat} {p p2 p3 : Pos} {C : Addr} {bmB : List Value} {B newId initId : String} (hc : X.calm = true) (tk : Takes X W) (Fc : ExcBaseFacts B newId initId bmB) (q : PySem.W.excIn X.K C bmB newId = true) (gC : X.mg x = some (.ref C)) (kC : PySem.W.keepIn X.K (.ref C) = true)
    (r : Raises X (.ref C)) (hg : Gl X x) (hdb : (x == ("__debug__" : Str)) = false := by decide) : DQ X g W (.Raise (some (.Call (.Name x p) [.Constant (.str m) j p2] [] p3)) none pos) (evRaise x) :=
  PS_weak (ps_raise hc tk (pmk_own Fc q gC kC r hg hdb)) fun D σ H ⟨F0, H0, F, z, n, h⟩ => h F σ H C n.st n.ok gC
def evSkip : MS := fun z => .ok .nx z
theorem dqs_nil : DQs X g W [] evSkip := PSs_weak pss_nil fun D σ H ⟨F0, H0, F, z, n, h⟩ => h.next n
theorem dq_pass : DQ X g W (.Pass pos) evSkip := PS_weak ps_pass fun D σ H ⟨F0, H0, F, z, n, h⟩ => h.next n
def evCont : MS := fun z => .ok .ct z
theorem dq_cont : DQ X g W (.Continue pos) evCont := PS_weak ps_continue fun D σ H ⟨F0, H0, F, z, n, h⟩ => h F σ H (Sub.refl F) n
theorem dqs_one (h : DQ X g W st fs) : DQs X g W [st] fs := pss_one h
def evThen (fs fr : MS) : MS := fun z => (fs z).bind fun f z1 => match f with
  | .nx => fr z1
  | .rt d => .ok (.rt d) z1
  | .bk => .ok .bk z1
  | .ct => .ok .ct z1
theorem S2.then {K : PySem.W.Frag} {mg : Str → Option Value} {F0 H0 Fs : Hp} {r : R Z Fl} {k : Z → R Z Fl} {D D' : Ends} (h : S2 K mg g W F0 H0 Fs (r.bind fun f z1 => match f with
  | .nx => k z1
  | .rt d => .ok (.rt d) z1
  | .bk => .ok .bk z1
  | .ct => .ok .ct z1) D) (hn : ∀ F' σ' H' z', Sub Fs F' → Now K mg g F0 H0 F' H' z' σ' → S2 K mg g W F0 H0 F' (k z') D → D'.nx σ' H') (hr : D'.rt = D.rt) (hb : D'.bk = D.bk) (hc : D'.ct = D.ct) : S2 K mg g W F0 H0 Fs r D' := by
  cases r with
  | ok f z => cases f with
    | nx => exact fun F' σ' H' s n => hn F' σ' H' z s n (S2.from s h)
    | bk => intro F' σ' H' s n; rw [hb]; exact h F' σ' H' s n
    | ct => intro F' σ' H' s n; rw [hc]; exact h F' σ' H' s n
    | rt d => intro F' v H' s st ok r; rw [hr]; exact h F' v H' s st ok r
  | err c z => exact h
  | stuck => exact h
theorem dqs_cons (h1 : DQ X g W st fs) (h2 : DQs X g W rest fr) : DQs X g W (st :: rest) (evThen fs fr) :=
  PSs_weak (pss_cons h1 h2) fun D σ H ⟨F0, H0, F, z, n, h⟩ => ⟨F0, H0, F, z, n, h.then (fun F' σ' H' z' s n' q => ⟨F0, H0, F', z', n', q⟩) rfl rfl rfl⟩

/-! ### loops -/
def forL (tgf : MG) (fb : MS) : List D → Z → R Z Fl
  | [], z => .ok .nx z
  | d :: r, z => match tgf d z.ρ with
    | none => .stuck
    | some ρ' => (fb ⟨ρ', z.s⟩).bind fun f z2 => match f with
      | .nx => forL tgf fb r z2
      | .ct => forL tgf fb r z2
      | .bk => .ok .nx z2
      | .rt d => .ok (.rt d) z2
def evFor (fi : ML) (tgf : MG) (fb : MS) : MS := fun z => (fi z).bind fun ds z1 => forL tgf fb ds z1
theorem S2.loop {K : PySem.W.Frag} {mg : Str → Option Value} {F0 H0 Fs : Hp} {r : R Z Fl} {k : Z → R Z Fl} {D D' : Ends} (h : S2 K mg g W F0 H0 Fs (r.bind fun f z1 => match f with
  | .nx => k z1
  | .ct => k z1
  | .bk => .ok .nx z1
  | .rt d => .ok (.rt d) z1) D) (hn : ∀ F' σ' H' z', Sub Fs F' → Now K mg g F0 H0 F' H' z' σ' → S2 K mg g W F0 H0 F' (k z') D → D'.nx σ' H') (hr : D'.rt = D.rt) (hb : D'.bk = D.nx) (hc : D'.ct = D'.nx) : S2 K mg g W F0 H0 Fs r D' := by
  cases r with
  | ok f z => cases f with
    | nx => exact fun F' σ' H' s n => hn F' σ' H' z s n (S2.from s h)
    | bk => intro F' σ' H' s n; rw [hb]; exact h F' σ' H' s n
    | ct => intro F' σ' H' s n; rw [hc]; exact hn F' σ' H' z s n (S2.from s h)
    | rt d => intro F' v H' s st ok r; rw [hr]; exact h F' v H' s st ok r
  | err c z => exact h
  | stuck => exact h
theorem dq_for {vs : List Nat} {fi : ML} (hp : PassesOwn (model X.prog X.w) X.A X.env X.xe) (hc : X.calm = true) (hi : DI X g W tg iter fi) (hg : DG X g vs tg tgf) (hb : DQs X g W body fs) (hs : ∀ x, foldedSetIterable iter X.env x = pure x := by intro _; rfl) :
    DQ X g W (.For tg iter body [] pos) (evFor fi tgf fs) := by
  refine PS_weak (ps_for hp hc hi hg hb hs) fun D σ H ⟨F0, H0, F, z, n, h⟩ => ⟨F0, H0, F, z, n, (EI.bindS h).imp fun J H1 ⟨ds, z1, F1, a1, it, _, h1⟩ => ?_⟩
  refine ⟨fun i m σ H => m = ds.length - i ∧ i ≤ ds.length ∧ ∃ F z, Now X.K X.mg g F0 H0 F H z σ ∧ Sub F1 F ∧ S2 X.K X.mg g W F0 H0 F (forL tgf fs (ds.drop i) z) D, ⟨ds.length, rfl, Nat.zero_le _, F1, z1, a1.now, Sub.refl F1, h1⟩, ?_⟩
  rintro i m σ2 H2 ⟨rfl, hile, F2, z2, n2, s2, h2⟩
  by_cases hlt : i < ds.length
  · obtain ⟨go, yl⟩ := it.go i ds[i] F2 H2 z2.s (List.getElem?_eq_getElem hlt) s2 n2.ok
    refine .inr ⟨go, fun σ' H' => i + 1 ≤ ds.length ∧ ∃ F z, Now X.K X.mg g F0 H0 F H' z σ' ∧ Sub F1 F ∧ S2 X.K X.mg g W F0 H0 F (forL tgf fs (ds.drop (i + 1)) z) D, fun σ' H' q => ⟨ds.length - (i + 1), by omega, rfl, q.1, q.2⟩, fun x H' y => ?_⟩
    obtain ⟨F3, st, ok3, rx⟩ := yl x H' y
    have a3 := n2.aft st ok3
    rw [List.drop_eq_getElem_cons hlt] at h2
    unfold forL at h2
    split at h2
    · exact h2.elim
    · rename_i ρ' er
      refine ⟨F0, H0, F3, _, ds[i], ρ', a3.now, rx, er, fun σ' n' _ => ⟨F0, H0, F3, ⟨ρ', z2.s⟩, n', (S2.from a3.sub h2).loop (fun F' σ' H' z' s n' q => ⟨by omega, F', z', n', (s2.trans a3.sub).trans s, q⟩) rfl rfl rfl⟩⟩
  · refine .inl ⟨it.stop i F2 H2 z2.s (by omega) s2 n2.ok, ?_⟩
    rw [List.drop_eq_nil_of_le (by omega)] at h2
    exact h2.next n2
def whL (ft : MT) (fb : MS) : Nat → Z → R Z Fl
  | 0, _ => .stuck
  | n + 1, z => (ft z).bind fun b z1 => if b = true then (fb z1).bind fun f z2 => match f with
      | .nx => whL ft fb n z2
      | .ct => whL ft fb n z2
      | .bk => .ok .nx z2
      | .rt d => .ok (.rt d) z2
    else .ok .nx z1
def evWhile (fu : Z → Nat) (ft : MT) (fb : MS) : MS := fun z => whL ft fb (fu z) z
theorem dq_while (fu : Z → Nat) (hp : PassesOwn (model X.prog X.w) X.A X.env X.xe) (hc : DT X g W c ft) (hb : DQs X g W body fs) : DQ X g W (.While c body [] pos) (evWhile fu ft fs) := by
  refine PS_weak (ps_while hp hc hb) fun D σ H ⟨F0, H0, F, z, n, h⟩ => ?_
  refine ⟨fun m σ H => ∃ F z, Now X.K X.mg g F0 H0 F H z σ ∧ S2 X.K X.mg g W F0 H0 F (whL ft fs m z) D, ⟨fu z, F, z, n, h⟩, ?_⟩
  rintro m σ2 H2 ⟨F2, z2, n2, h2⟩
  cases m with
  | zero => exact h2.elim
  | succ m =>
    unfold whL at h2
    refine ⟨F0, H0, F2, z2, n2, (ET.bindS h2).imp fun b H3 ⟨z3, F3, a3, _, h3⟩ => ?_⟩
    cases b with
    | true =>
      rw [if_pos rfl] at h3 ⊢
      exact ⟨fun σ H => ∃ F z, Now X.K X.mg g F0 H0 F H z σ ∧ S2 X.K X.mg g W F0 H0 F (whL ft fs m z) D, fun σ' H' q => ⟨m, Nat.lt_succ_self m, q⟩, F0, H0, F3, z3, a3.now, h3.loop (fun F' σ' H' z' s n' q => ⟨F', z', n', q⟩) rfl rfl rfl⟩
    | false =>
      rw [if_neg Bool.false_ne_true] at h3 ⊢
      exact h3.next a3.now
end

/-! ### a def -/
def runB (L : Nat) (fb : MS) : MF := fun ds s => match fb ⟨ds.map SV.d ++ List.replicate (L - ds.length) .un, s⟩ with
  | .ok (.rt d) z => .ok d z.s
  | .ok .nx z => .ok .non z.s
  | .err c z => .err c z.s
  | _ => .stuck
/-- what a def's body may lean on -/
structure On (X : Cx) (W : WX) (k : Nat) : Prop where
  room : Room k X.A
  takes : Takes X W
  passes : PassesOwn (model X.prog X.w) X.A X.env X.xe
theorem reps_get {K : PySem.W.Frag} {mg : Str → Option Value} {g : Gh} {F : Hp} : ∀ {ds : List D} {vs : List V} {i : Nat} {x : SV}, Reps K mg g F ds vs → (ds.map SV.d)[i]? = some x → ∃ d v, x = .d d ∧ vs[i]? = some v ∧ Rep K mg g F d v := by
  intro ds vs i x h e
  rw [List.getElem?_map] at e
  cases q : ds[i]? with
  | none => rw [q] at e; cases e
  | some d =>
    rw [q] at e; cases e
    obtain ⟨v, h1, h2⟩ := h.get q
    exact ⟨d, v, rfl, h1, h2⟩
theorem now_start {K : PySem.W.Frag} {mg : Str → Option Value} {g : Gh} {F H : Hp} {s : S} {ds : List D} {vs : List V} {N : List Str} (ok : Ok K g F s H) (r : Reps K mg g F ds vs) : Now K mg g F H F H ⟨ds.map SV.d ++ List.replicate (N.length - ds.length) .un, s⟩ (L2.start N vs) := by
  have el := r.len
  have own : ∀ {i : Nat} {es : List D}, (ds.map SV.d ++ List.replicate (N.length - ds.length) SV.un)[i]? = some (.own es) → False := fun {i es} e => by
    by_cases hi : i < ds.length
    · rw [List.getElem?_append_left (by simpa using hi)] at e
      obtain ⟨d, v, e1, _⟩ := reps_get r e
      cases e1
    · rw [List.getElem?_append_right (by simpa using hi), List.getElem?_replicate] at e
      split at e <;> cases e
  refine ⟨Step.refl F H, ok, by simp [L2.start, el], fun i x e => ?_, fun i j ds es e _ _ => (own e).elim⟩
  show SlotOk K mg g F H H x (L2.start N vs)[i]?
  by_cases hi : i < ds.length
  · rw [List.getElem?_append_left (by simpa using hi)] at e
    obtain ⟨d, v, rfl, e1, e2⟩ := reps_get r e
    refine ⟨v, ?_, e2⟩
    unfold L2.start
    rw [List.getElem?_append_left (by rw [List.length_map]; omega), List.getElem?_map, e1]
    rfl
  · rw [List.getElem?_append_right (by simpa using hi), List.getElem?_replicate] at e
    split at e
    · cases e; trivial
    · cases e
theorem fn_dl {P : Program} {w : World} {K : PySem.W.Frag} {mg : Str → Option Value} {base : Heap} {g : Gh} {x qual : Str} {st : Stmt} {f : Addr} {fd : FuncData} {N ps : List Str} {k : Nat} {mf : MF} {fb : MS} (F : Fun K x qual st f fd) (S : FnScope N ps (defScope st))
    (hb : ∀ (cdv : Value) (A : Around) (outer : List Env) (s : Shared) (H : Hp) (E : XK), On (cxOf (L2.CX P w) P w K mg base N qual (defScope st) f cdv A outer s H E) (fun cls d _ H => E cls d H) k →
      DQs (cxOf (L2.CX P w) P w K mg base N qual (defScope st) f cdv A outer s H E) g (fun cls d _ H => E cls d H) (defBody st) fb)
    (hm : ∀ ds s, ds.length = ps.length → mf ds s ≠ .stuck → runB N.length fb ds s = mf ds s) : FnOk P w K mg base (L2.CX P w) (k + 1) f fd ps (spD K mg g ps.length mf) := by
  refine F.okX S (fun vs H Q E h => ?_) (fun cdv A outer s H vs Q E hr h => ?_)
  · obtain ⟨_, _, _, e, _⟩ := h
    exact e
  · obtain ⟨F1, ds, s1, el, ok, r, h⟩ := h
    refine ⟨_, hb cdv A outer s H E ⟨hr, takes_of rfl rfl rfl rfl, passes_of rfl⟩, F1, H, F1, ⟨ds.map SV.d ++ List.replicate (N.length - ds.length) SV.un, s1⟩, now_start (N := N) ok r, ?_⟩
    have er := r.len
    have hs : mf ds s1 ≠ .stuck := fun z => by rw [z] at h; exact h
    have q := hm ds s1 (by omega) hs
    rw [← q] at h
    unfold runB at h
    generalize fb ⟨ds.map SV.d ++ List.replicate (N.length - ds.length) .un, s1⟩ = r2 at h
    cases r2 with
    | ok fl z => cases fl with
      | nx => exact fun F' σ' H' _ n => h F' .non H' n.st n.ok rfl
      | bk => exact h.elim
      | ct => exact h.elim
      | rt d => exact fun F' v H' _ st ok r => h F' v H' st ok r
    | err c z => exact fun F' σ' H' C st ok e => h F' H' C st ok e
    | stuck => exact h.elim
end DL

set_option Elab.async false
set_option linter.all false
set_option maxRecDepth 100000
set_option autoImplicit false
/-! DL8: a generator expression over a text in any; lambdas. -/
namespace DL
open PySem PySem.Spec PyProof.Rows L2

section
variable {K : PySem.W.Frag} {mg : Str → Option Value} {g : Gh} {W : WX} {F0 H0 F H F' H' : Hp} {σ : L2.St} {z z' : Z}
/-- the tables apart -/
structure GtOk (g : Gh) (P : Addr) : Prop where
  mem : P ∈ g.GT
  ap : ∀ p ∈ g.T, p.1 ≠ P
theorem Now.tabbed {P : Addr} (n : Now K mg g F0 H0 F H z σ) (hP : GtOk g P) (t : GxR.Tabbed P H H') : Aft K mg g F0 H0 F H z F H' z σ := by
  obtain ⟨ps, eP, _⟩ := n.ok.gtab P hP.mem
  obtain ⟨⟨ps', eP', k'⟩, same⟩ := t
  have ne : ∀ {b : Addr} {o : HO}, H b = some o → (∀ ps, o ≠ .tbl ps) → b ≠ P := fun {b o} e q w => by rw [w, eP] at e; cases e; exact q _ rfl
  have kp : Keep g H H' := fun b o e q _ => by rw [same b (ne e q)]; exact e
  have th : ∀ b, H b ≠ none → H' b ≠ none := fun b e => by
    by_cases hb : b = P
    · rw [hb, eP']; simp
    · rw [same b hb]; exact e
  have st : Step g F H F H' := ⟨Sub.refl F, fun b o e q => (by rw [e] at q; cases q), kp, th⟩
  refine n.aft (s' := z.s) st ⟨fun b o e => ?_, n.ok.nota, fun p hp => ?_, fun P' hP' => ?_, n.ok.dF, fun a e => ?_⟩
  · rw [same b (ne (n.ok.sub b o e) (fun ps q => n.ok.nota b ps (q ▸ e)))]; exact n.ok.sub b o e
  · obtain ⟨qs, e1, e2, e3⟩ := n.ok.tabs p hp
    refine ⟨qs, by rw [same _ (hP.ap p hp)]; exact e1, e2, fun pos cv h => ?_⟩
    obtain ⟨c, e4, e5⟩ := e3 pos cv h
    exact ⟨c, e4, by rw [same c (ne e5 LamX.codeO_ne)]; exact e5⟩
  · by_cases hb : P' = P
    · rw [hb]; exact ⟨ps', eP', k'⟩
    · obtain ⟨qs, e1, e2⟩ := n.ok.gtab P' hP'
      exact ⟨qs, by rw [same P' hb]; exact e1, e2⟩
  · rw [same a (ne (n.ok.dice a e) (fun ps q => by cases q))]; exact n.ok.dice a e
end
section
variable {X : Cx} {g : Gh} {W : WX} {pos : Pos} {fa : ME}
/-- x not in 'k' -/
def niS (k : Str) (c : Nat) : Bool := !(!(Builtin.Str.occurrences k ⟨#[c]⟩ 0 k.length 1).isEmpty)
theorem elt_ni {prog : Program} {w : World} {scope : Scope} {x k : Str} {j : Nat} {p1 p2 p3 : Pos} (hk : scope.kind = .function) (hl : scope.names.lookup x = some .local) (hd : (x == ("__debug__" : Str)) = false := by decide)
    (hb : behindInMarks .NotIn (.Constant (.str k) j p2) = false := by rfl) :
    GxR.EltP prog w scope x (.Compare (.Name x p1) [.NotIn] [.Constant (.str k) j p2] p3) (niS k) := by
  intro ce A' E' c t s2 m2 hs hn hm
  refine wpAny_Compare1 (wpAny_Name (wpAny_loadName_local ?_ ?_ hn hm (Calls.Constant_str (notIn_str ⟨rfl, GxR.keeps_tok _ _⟩))) hd) hb
  · rw [hs]; exact hk
  · show ce.scope.names.lookup x = _
    rw [hs]; exact hl
def evAnyS (pb : Nat → Bool) (f : ME) : ME := fun z => (f z).bind fun d z1 => match d with
  | .str a => .ok (.bl (a.cps.toList.any pb)) z1
  | _ => .stuck
theorem de_anyS {c P : Addr} {elt iter : Expr} {x : Str} {px p gpos : Pos} {scope : Scope} {pb : Nat → Bool} {k : Nat} (hr : Room k X.A) (hg : Gl X "any") (hm : X.mg "any" = none) (TB : GxR.TabB X.base X.mg c P) (hP : GtOk g P) (hcode : X.env.code = .ref c)
    (S : GxR.GenS X.env scope x) (hi : DE X g W iter fa) (hel : GxR.EltP X.prog X.w scope x elt pb) (hs : ∀ v, genFold iter X.env v = pure v)
    (he : starEach [.GeneratorExp elt [⟨.Name x px, iter, [], 0⟩] scope gpos] X.env = (false, eval (.GeneratorExp elt [⟨.Name x px, iter, [], 0⟩] scope gpos) X.env) :: starEach [] X.env := by rfl) :
    DE X g W (.Call (.Name "any" p) [.GeneratorExp elt [⟨.Name x px, iter, [], 0⟩] scope gpos] [] pos) (evAnyS pb fa) := by
  refine PE_weak (GxR.pe_anyS hr hg hm TB hcode S hi hel hs he) fun σ H Q ⟨F0, H0, F, z, n, q⟩ => ⟨F0, H0, F, z, n, (E1.bindE q).imp fun v H1 ⟨d, z1, F1, a1, r1, _, h1⟩ => ?_⟩
  split at h1
  · cases r1
    exact ⟨_, rfl, a1.now.ok.gtab P hP.mem, fun H2 t => h1 F1 _ H2 (a1.now.tabbed hP t) rfl⟩
  · exact h1.elim
end

/-! ### lambdas -/
/-- a lambda has been made: its code object stands in the table at P -/
structure LamTo (g : Gh) (P : Addr) (q : Str) (H H1 : Hp) (c' : Addr) : Prop where
  keep : ∀ b o, H b = some o → b ≠ P → H1 b = some o
  new : ∀ b o, H1 b = some o → H b = none → b = c' ∧ o = LamX.CodeO c' q
  tab : LamX.TabS H1 P q
  code : H1 c' = some (LamX.CodeO c' q)
section
variable {X : Cx} {pins : List (Addr × Obj)} {σ : L2.St} {H : Hp} {s : Shared}
theorem lam_mk {c P : Addr} {params : Arguments} {body : Expr} {scope : Scope} {pos : Pos} {E Q : Value → Shared → Prop} {g : Gh} (I : Inv X pins σ H s) (TB : LamX.TabB X.base X.mg c P) (hcode : X.env.code = .ref c)
    (hT : LamX.TabS H P (X.env.qual ++ "<lambda>")) (hdef : defaultsOf params X.env = ([], [])) (hfree : ∀ y ∈ scope.names, y.2 = .free → ∃ c, X.env.cells.lookup y.1 = some c)
    (h : ∀ (c' : Addr) (pm ctv : Value) (H1 : Hp) (h1 : Heap) (tk : Nat), Inv X pins σ H1 { s with heap := h1, toks := tk } → LamTo g P (X.env.qual ++ "<lambda>") H H1 c' → s.heap.objs.size ≤ h1.objs.size →
      Q (.ref h1.objs.size) { s with heap := h1.push (PySem.W.kla_obj "<lambda>" (X.env.qual ++ "<lambda>") params body scope (cloFrom X.env.cells scope.names []) pm c' ctv), toks := tk }) :
    wpAny (model X.prog X.w) X.A (eval (.Lambda params body scope pos) X.env) Q E s := by
  obtain ⟨ps, eP, okP, all⟩ := hT
  have oP : s.heap.get? P = some { cls := .none, data := .fields ps } := I.hok P _ eP
  apply PySem.W.kla_eval hdef
  have bP := TB.bm.keeps I.bk
  have cP := TB.code.keeps I.bk
  have gl := I.mod.glob.keeps I.bk
  rcases hq : codeAmong pos ps.toList with _ | cv
  · refine PySem.W.kla_makeFunction (closure_ok hfree) I.ok.glob gl hcode cP oP okP hq TB.gP bP ?_
    rintro c' ctv h1 tk ext big small ⟨_, oc, vs, t, e, g1, g2, g3⟩ etb
    cases e
    have nC : H c' = none := I.hok.fresh big
    have nP : P ≠ c' := ne_of_none eP nC
    have J := LamX.inv_table (t' := tk) (more := #[rawInt pos.line, rawInt pos.col, .ref c']) I eP ext etb big ⟨oc, vs, t, g1, g2, g3⟩
    refine h c' _ ctv _ h1 tk J ⟨fun b o e n => ?_, fun b o e n => ?_, ⟨ps ++ #[rawInt pos.line, rawInt pos.col, .ref c'], ?_, ?_, fun p' w hw => ?_⟩, upd_same⟩ (Nat.le_trans big (Nat.le_of_lt small))
    · rw [upd_ne (ne_of_none e nC), upd_ne n]; exact e
    · by_cases hb : b = c'
      · rw [hb, upd_same] at e; exact ⟨hb, (Option.some.inj e).symm⟩
      · rw [upd_ne hb] at e
        by_cases hb2 : b = P
        · rw [hb2, eP] at n; cases n
        · rw [upd_ne hb2, n] at e; cases e
    · rw [upd_ne nP, upd_same]
    · have el : (ps ++ #[rawInt pos.line, rawInt pos.col, .ref c']).toList = ps.toList ++ [rawInt pos.line, rawInt pos.col, .ref c'] := by simp
      rw [el]; exact PySem.TriplesOk_snoc _ _ _ _ okP
    · have el : (ps ++ #[rawInt pos.line, rawInt pos.col, .ref c']).toList = ps.toList ++ [rawInt pos.line, rawInt pos.col, .ref c'] := by simp
      rw [el] at hw
      rcases LamX.among_app _ okP hw with k | k
      · obtain ⟨d, e1, e2⟩ := all p' w k
        refine ⟨d, e1, ?_⟩
        rw [upd_ne (ne_of_none e2 nC), upd_ne fun q => LamX.codeO_ne ps (by rw [q, eP] at e2; exact (Option.some.inj e2).symm)]
        exact e2
      · exact ⟨c', k, upd_same⟩
  · obtain ⟨c', e, hc⟩ := all pos cv hq
    subst e
    refine PySem.W.kla_makeFunctionHit (closure_ok hfree) I.ok.glob gl hcode cP oP okP hq bP ?_
    intro ctv h1 tk ext big
    exact h c' _ ctv H h1 tk (I.kept ext) ⟨fun b o e _ => e, fun b o e n => (by rw [e] at n; cases n), ⟨ps, eP, okP, all⟩, hc⟩ big
end
section
variable {K : PySem.W.Frag} {mg : Str → Option Value} {g : Gh} {W : WX} {F0 H0 F H F' H1 : Hp} {σ : L2.St} {z z' : Z}
/-- the lambdas' tables -/
structure LtOk (g : Gh) (P : Addr) (q : Str) : Prop where
  mem : (P, q) ∈ g.T
  one : ∀ p ∈ g.T, p.1 = P → p.2 = q
  ap : P ∉ g.GT
/-- the code object is frozen -/
theorem Now.lam {P c' : Addr} {q : Str} (n : Now K mg g F0 H0 F H z σ) (hP : LtOk g P q) (t : LamTo g P q H H1 c') : Aft K mg g F0 H0 F H z (upd F c' (LamX.CodeO c' q)) H1 z σ := by
  obtain ⟨ps, eP, okP, all⟩ := n.ok.tabs _ hP.mem
  have ne : ∀ {b : Addr} {o : HO}, H b = some o → (∀ ps, o ≠ .tbl ps) → b ≠ P := fun {b o} e q w => by rw [w, eP] at e; cases e; exact q _ rfl
  have kp : ∀ {b : Addr} {o : HO}, H b = some o → (∀ ps, o ≠ .tbl ps) → H1 b = some o := fun {b o} e q => t.keep b o e (ne e q)
  -- what F tells at c' is the code object
  have sameC : ∀ {o : HO}, F c' = some o → o = LamX.CodeO c' q := fun {o} e => by
    have h := kp (n.ok.sub c' o e) (fun ps z => n.ok.nota c' ps (z ▸ e))
    rw [t.code] at h
    exact (Option.some.inj h).symm
  have su : Sub F (upd F c' (LamX.CodeO c' q)) := fun b o e => by
    by_cases hb : b = c'
    · rw [hb] at e ⊢; rw [upd_same, sameC e]
    · rw [upd_ne hb]; exact e
  have th : ∀ b, H b ≠ none → H1 b ≠ none := fun b e => by
    by_cases hb : b = P
    · obtain ⟨qs, e1, _⟩ := t.tab
      rw [hb, e1]; simp
    · cases q1 : H b with
      | none => exact absurd q1 e
      | some u => rw [t.keep b u q1 hb]; simp
  have st : Step g F H (upd F c' (LamX.CodeO c' q)) H1 := by
    refine ⟨su, fun b o e w => ?_, fun b o e w _ => kp e w, th⟩
    by_cases hb : b = c'
    · rw [hb, upd_same] at e; cases e; exact .inr ⟨c', q, rfl⟩
    · rw [upd_ne hb, w] at e; cases e
  refine n.aft (s' := z.s) st ⟨fun b o e => ?_, fun b ps' e => ?_, fun p hp => ?_, fun P' hP' => ?_, fun a e => ?_, fun a e => ?_⟩
  · by_cases hb : b = c'
    · rw [hb, upd_same] at e; cases e; rw [hb]; exact t.code
    · rw [upd_ne hb] at e
      exact kp (n.ok.sub b o e) (fun ps z => n.ok.nota b ps (z ▸ e))
  · by_cases hb : b = c'
    · rw [hb, upd_same] at e
      exact LamX.codeO_ne ps' (Option.some.inj e)
    · rw [upd_ne hb] at e; exact n.ok.nota b ps' e
  · by_cases hb : p.1 = P
    · have e2 := hP.one p hp hb
      rw [hb, e2]
      exact t.tab
    · obtain ⟨qs, e1, e2, e3⟩ := n.ok.tabs p hp
      refine ⟨qs, t.keep _ _ e1 hb, e2, fun pos cv h => ?_⟩
      obtain ⟨c, e4, e5⟩ := e3 pos cv h
      exact ⟨c, e4, kp e5 LamX.codeO_ne⟩
  · obtain ⟨qs, e1, e2⟩ := n.ok.gtab P' hP'
    exact ⟨qs, t.keep _ _ e1 (fun w => hP.ap (w ▸ hP')), e2⟩
  · have h := n.ok.dF a e
    by_cases hb : a = c'
    · have h2 := kp (n.ok.dice a e) (fun ps z => by cases z)
      rw [hb, t.code] at h2
      unfold LamX.CodeO at h2
      cases h2
    · rw [upd_ne hb]; exact h
  · exact kp (n.ok.dice a e) (fun ps z => by cases z)
end
end DL

set_option Elab.async false
set_option linter.all false
set_option maxRecDepth 100000
set_option autoImplicit false
/-! DL9: defs as known, what a lambda is told, the law's end. -/
namespace DL
open PySem PySem.Spec PyProof.Rows L2

/-! ### a def of the text -/
structure FunE (K : PySem.W.Frag) (x qual : Str) (st : Stmt) (dvs : List V) (f : Addr) (fd : FuncData) (cdv : Value) : Prop where
  ex : ∃ (oc : Value) (od : Option Addr) (dV kV doc pm : Value) (an : Option Addr) (ct : Value) (osl : Array (Option Value)),
    fd = PySem.W.fnOf x qual (defArgs st) (defBody st) (defScope st) dV kV doc pm an cdv ct ∧ K.lookup f = some ⟨oc, od, .func fd, osl⟩ ∧ PySem.W.codeIn K cdv qual = true ∧ DflV K dV dvs
  kp : PySem.W.keepIn K (.ref f) = true
theorem FunE.toD {K : PySem.W.Frag} {x qual : Str} {st : Stmt} {dvs : List V} {f : Addr} {fd : FuncData} {cdv : Value} (F : FunE K x qual st dvs f fd cdv) : FunD K x qual (defArgs st) (defBody st) (defScope st) dvs [] f fd := by
  obtain ⟨oc, od, dV, kV, doc, pm, an, ct, osl, h1, h2, h3, h4⟩ := F.ex
  exact ⟨⟨oc, od, dV, kV, doc, pm, an, cdv, ct, osl, h1, h2, h3, h4, .inl rfl⟩, F.kp⟩
theorem On.up {X : Cx} {W : WX} {j k : Nat} (h : On X W k) (e : j ≤ k) : On X W j := ⟨h.room.mono e, h.takes, h.passes⟩
theorem On.blk {X : Cx} {W : WX} {k : Nat} (h : On X W k) (s : Shared) (H : Hp) (scope : Scope) (env : Env) (fp : List Addr) : On (X.blk s H scope env fp) (fun _ _ _ _ => False) k := ⟨h.room, LamX.takes0, PassesOwn.never⟩
theorem fn_dl2 {P : Program} {w : World} {K : PySem.W.Frag} {mg : Str → Option Value} {base : Heap} {g : Gh} {x qual : Str} {st : Stmt} {f : Addr} {fd : FuncData} {cdv : Value} {dvs : List V} {N ps : List Str} {k n : Nat} {mf : MF} {fb : MS} (F : FunE K x qual st dvs f fd cdv) (S : FnScope N ps (defScope st)) (hn : ps.length = n)
    (hb : ∀ (A : Around) (outer : List Env) (s : Shared) (H : Hp) (E : XK), On (cxOf (L2.CX P w) P w K mg base N qual (defScope st) f cdv A outer s H E) (fun cls d _ H => E cls d H) k →
      DQs (cxOf (L2.CX P w) P w K mg base N qual (defScope st) f cdv A outer s H E) g (fun cls d _ H => E cls d H) (defBody st) fb)
    (hm : ∀ ds s, ds.length = n → mf ds s ≠ .stuck → runB N.length fb ds s = mf ds s) : FnOk P w K mg base (L2.CX P w) (k + 1) f fd ps (spD K mg g n mf) := by
  subst hn
  obtain ⟨oc, od, dV, kV, doc, pm, an, ct, osl, rfl, lk, hcd, _⟩ := F.ex
  refine fn_of lk hcd S (fun vs H Q E h => ?_) (fun A outer s H vs Q E hr h => ?_)
  · obtain ⟨_, _, _, e, _⟩ := h
    exact e
  · obtain ⟨F1, ds, s1, el, ok, r, h⟩ := h
    refine ⟨_, hb A outer s H E ⟨hr, takes_of rfl rfl rfl rfl, passes_of rfl⟩, F1, H, F1, ⟨ds.map SV.d ++ List.replicate (N.length - ds.length) SV.un, s1⟩, now_start (N := N) ok r, ?_⟩
    have er := r.len
    have hs : mf ds s1 ≠ .stuck := fun z => by rw [z] at h; exact h
    have q := hm ds s1 (by omega) hs
    rw [← q] at h
    unfold runB at h
    generalize fb ⟨ds.map SV.d ++ List.replicate (N.length - ds.length) .un, s1⟩ = r2 at h
    cases r2 with
    | ok fl z => cases fl with
      | nx => exact fun F' σ' H' _ n => h F' .non H' n.st n.ok rfl
      | bk => exact h.elim
      | ct => exact h.elim
      | rt d => exact fun F' v H' _ st ok r => h F' v H' st ok r
    | err c z => exact fun F' σ' H' C st ok e => h F' H' C st ok e
    | stuck => exact h.elim
/-- a def that may be called by its name x with so many written arguments -/
structure Kn (P : Program) (w : World) (K : PySem.W.Frag) (mg : Str → Option Value) (base : Heap) (g : Gh) (x : Str) (k n : Nat) (mf : MF) (dds : List D) : Prop where
  ex : ∃ (f : Addr) (fd : FuncData) (ps : List Str) (dus : List Value) (dvs : List V), FnOk P w K mg base (L2.CX P w) k f fd ps (spD K mg g n mf) ∧ mg x = some (.ref f) ∧ PySem.W.keepIn K (.ref f) = true ∧ Binds K fd ps dus ∧ Vals dvs dus ∧ ∀ F, Reps K mg g F dds dvs
theorem Kn.up {P : Program} {w : World} {K : PySem.W.Frag} {mg : Str → Option Value} {base : Heap} {g : Gh} {x : Str} {j k n : Nat} {mf : MF} {dds : List D} (h : Kn P w K mg base g x j n mf dds) (e : j ≤ k) : Kn P w K mg base g x k n mf dds := by
  obtain ⟨f, fd, ps, dus, dvs, h1, h2⟩ := h.ex
  exact ⟨f, fd, ps, dus, dvs, h1.mono e, h2⟩
/-- what is not run needs nothing -/
def mStuck : MF := fun _ _ => .stuck
theorem fn_stuck {P : Program} {w : World} {K : PySem.W.Frag} {mg : Str → Option Value} {base : Heap} {g : Gh} {f : Addr} {fd : FuncData} {ps : List Str} {k n : Nat} : FnOk P w K mg base (L2.CX P w) k f fd ps (spD K mg g n mStuck) :=
  ⟨fun vs H Q E ⟨_, _, _, _, _, _, h⟩ => h.elim, fun A outer s H args us vs Q E _ _ _ _ ⟨_, _, _, _, _, _, h⟩ => h.elim⟩
section
variable {X : Cx} {g : Gh} {W : WX} {pos : Pos} {fl : ML} {fb : ME}
theorem de_kn {k j n : Nat} {x : Str} {p : Pos} {e : Expr} {es : List Expr} {mf : MF} {dds : List D} (h : Kn X.prog X.w X.K X.mg X.base g x j n mf dds) (on : On X W k) (hj : j ≤ k) (ha : DA X g W (e :: es) fl) (hg : Gl X x := by rfl) (hdb : (x == ("__debug__" : Str)) = false := by decide) (he : starEach (e :: es) X.env = (false, eval e X.env) :: starEach es X.env := by rfl)
    (hpl : (backTo pos (starEach es X.env)).any (·.1) = false := by rfl) : DE X g W (.Call (.Name x p) (e :: es) [] pos) (evCall n mf dds fl) := by
  obtain ⟨f, fd, ps, dus, dvs, h1, h2, h3, h4, h5, h6⟩ := h.ex
  exact de_call h1 (on.room.mono hj) on.takes hg h2 h3 h4 h5 h6 ha hdb he hpl
theorem pe_call0S {CX : CXT} {k : Nat} {f : Addr} {fd : FuncData} {ps : List Str} {sp : Sp} {dvs : List V} {ds : List Value} {E : L2.St → XK} {x : Str} {p : Pos} (Fn : FnOk X.prog X.w X.K X.mg X.base CX k f fd ps sp) (hr : Room k X.A) (hg : Gl X x) (hm : X.mg x = some (.ref f)) (hk : PySem.W.keepIn X.K (.ref f) = true)
    (hb : Binds X.K fd ps ds) (hd : Vals dvs ds) (hx : ∀ σ, PassesAt CX X σ (E σ)) (hdb : (x == ("__debug__" : Str)) = false) : PE X (.Call (.Name x p) [] [] pos) (fun σ H Q => sp dvs H Q (E σ)) := by
  constructor
  intro pins s σ H Q I h
  apply wpAny_Call_Name_kw
  exact ld_glob I hg hm (PySem.W.callWith_K0 I.kIn hk (run_fnSD (us := []) (vs := []) Fn hr hb hd (hx σ) I .nil h)) hdb
theorem de_kn0 {k j n : Nat} {x : Str} {p : Pos} {mf : MF} {dds : List D} (h : Kn X.prog X.w X.K X.mg X.base g x j n mf dds) (on : On X W k) (hj : j ≤ k) (hg : Gl X x := by rfl) (hdb : (x == ("__debug__" : Str)) = false := by decide) : DE X g W (.Call (.Name x p) [] [] pos) (evCall n mf dds evNil) := by
  obtain ⟨f, fd, ps, dus, dvs, h1, h2, h3, h4, h5, h6⟩ := h.ex
  refine PE_weak (pe_call0S (E := WE W) h1 (on.room.mono hj) hg h2 h3 h4 h5 (fun σ => passAt on.takes σ) hdb) fun σ H Q ⟨F0, H0, F, z, n, q⟩ => ?_
  unfold evCall evNil at q
  rw [R.bind_ok] at q
  split at q
  · rename_i hl
    have rr := h6 F
    refine ⟨F, dds, z.s, by rw [rr.len]; simpa using hl, n.ok, rr, ?_⟩
    simp only [List.nil_append] at q
    split <;> rename_i e <;> rw [e] at q
    · exact fun F' v H' st ok r => q F' v H' (n.aft st ok) r
    · exact fun F' H' C st ok em => q F' H' C (n.aft st ok) em
    · exact q.elim
  · exact q.elim

/-! ### _told(lambda: ..) -/
/-- the def that tells: try: return a() / except ec: return ret -/
structure Told (K : PySem.W.Frag) (mg : Str → Option Value) (x ec ret : Str) (ok : Str → Prop) : Prop where
  ex : ∃ (f CS : Addr) (oc : Value) (od : Option Addr) (pg : Arguments) (sg : Scope) (dV kV doc pm cdv ct : Value) (an : Option Addr) (osl : Array (Option Value)) (Ng : List Str) (a : Str) (j : Nat) (p1 p2 p3 p4 p5 p6 p7 p8 : Pos),
    mg x = some (.ref f) ∧ PySem.W.keepIn K (.ref f) = true ∧
    K.lookup f = some ⟨oc, od, .func (PySem.W.fnOf x x pg [.Try [.Return (some (.Call (.Name a p1) [] [] p2)) p3] [.ExceptHandler (some (.Name ec p4)) none [.Return (some (.Constant (.str ret) j p5)) p6] p7] [] [] p8] sg dV kV doc pm an cdv ct), osl⟩ ∧
    PySem.W.codeIn K cdv x = true ∧ L2.Binds K (PySem.W.fnOf x x pg [.Try [.Return (some (.Call (.Name a p1) [] [] p2)) p3] [.ExceptHandler (some (.Name ec p4)) none [.Return (some (.Constant (.str ret) j p5)) p6] p7] [] [] p8] sg dV kV doc pm an cdv ct) [a] [] ∧
    FnScope Ng [a] sg ∧ Ng[0]? = some a ∧ Vis sg a ∧ sg.names.lookup ec = some .globalImplicit ∧ mg ec = some (.ref CS) ∧ (a == ("__debug__" : Str)) = false ∧ (a == ("__classdict__" : Str)) = false ∧ (ec == ("__debug__" : Str)) = false ∧ (x == ("__debug__" : Str)) = false ∧
    (∀ f : Addr, (L2.start Ng [V.ref f])[0]? = some (some (V.ref f))) ∧ (∀ c C, ok c → mg c = some (.ref C) → PySem.W.exmOne K (.ref C) (.ref CS) = some true)
def evTold (ok : Str → Bool) (ret : Str) (f : ME) : ME := fun z => match f z with
  | .ok d z' => .ok d z'
  | .err c z' => if ok c = true then .ok (.str ret) z' else .stuck
  | .stuck => .stuck
theorem de_told {x ec ret : Str} {okc : Str → Bool} {c P : Addr} {k : Nat} {params : Arguments} {body : Expr} {scope : Scope} {p lpos : Pos} (T : Told X.K X.mg x ec ret (fun c => okc c = true)) (on : On X W (k + 2)) (TB : LamX.TabB X.base X.mg c P) (hP : LtOk g P (X.env.qual ++ "<lambda>")) (hcode : X.env.code = .ref c) (L : LamX.LamS X.env.scope scope)
    (hdef : defaultsOf params X.env = ([], [])) (hbind : ∀ (q : Str) (cl : List (Str × Addr)) (pm cv ctv : Value), bindArgs (PySem.W.kla_fn "<lambda>" q params body scope cl pm cv ctv) ⟨[], []⟩ = pure [])
    (hbody : ∀ (A : Around) (outer : List Env) (s : Shared) (H : Hp) (E : XK) (f c' : Addr), On (LamX.lamCx X A outer s H E scope f c') (fun cls d _ H => E cls d H) k → DE (LamX.lamCx X A outer s H E scope f c') g (fun cls d _ H => E cls d H) body fb)
    (hg : Gl X x := by rfl) : DE X g W (.Call (.Name x p) [.Lambda params body scope lpos] [] pos) (evTold okc ret fb) := by
  obtain ⟨gf, CS, oc, od, pg, sg, dV, kV, doc, pm0, cdv, ct, an, osl, Ng, a, j, p1, p2, p3, p4, p5, p6, p7, p8, hm, hk, lk, hcg, hb, Sg, hN0, hva, hec, hmc, da, dca, dec, dx, hst, hex⟩ := T.ex
  constructor
  rintro pins s σ H Q I ⟨F0, H0, F, z, n, h⟩
  apply wpAny_Call_Name_kw
  refine ld_glob I hg hm ?_ dx
  refine PySem.W.callWith_K I.ok.mod.kin hk ?_ (by rfl) (by rfl)
  show wpAny _ _ (spliced ((false, eval (.Lambda params body scope lpos) X.env) :: backTo pos (starEach [] X.env))) _ _ s
  apply Calls.spliced_cons
  refine lam_mk (g := g) I TB hcode (n.ok.tabs _ hP.mem) hdef (L.has I.ok) ?_
  intro c' pm ctv H1 h1 tk J lt big
  have J2 := J.kept (t' := tk) (h' := h1.push (PySem.W.kla_obj "<lambda>" (X.env.qual ++ "<lambda>") params body scope (cloFrom X.env.cells scope.names []) pm c' ctv)) fun b o e => Heap.get?_push_of_some _ e
  have hf := Heap.get?_push_size h1 (o := PySem.W.kla_obj "<lambda>" (X.env.qual ++ "<lambda>") params body scope (cloFrom X.env.cells scope.names []) pm c' ctv) rfl
  have hfn : H1 h1.objs.size = none := J.hok.fresh (Nat.le_refl _)
  have hfr : h1.objs.size ∉ frs X.stack := fun w => by
    rcases List.mem_cons.mp (J.stkSub _ w) with e | e
    · have q := J.lt
      rw [← e] at q
      exact Nat.lt_irrefl _ q
    · exact J.nofs (Nat.le_refl _) e
  have a1 := n.lam hP lt
  refine Calls.spliced_nil ⟨J2.kIn, ?_⟩
  have cr : codeAny (model X.prog X.w) X.A (.call (.ref gf) ⟨[.ref h1.objs.size], []⟩) (CR C8.CX0 X.stack X.prog X.w H1 { s with heap := h1.push (PySem.W.kla_obj "<lambda>" (X.env.qual ++ "<lambda>") params body scope (cloFrom X.env.cells scope.names []) pm c' ctv), toks := tk } Q C8.E0) { s with heap := h1.push (PySem.W.kla_obj "<lambda>" (X.env.qual ++ "<lambda>") params body scope (cloFrom X.env.cells scope.names []) pm c' ctv), toks := tk } := by
    refine LamX.run_ofS (us := [.ref h1.objs.size]) (vs := [.ref h1.objs.size]) lk hcg Sg on.room J2.env0 (hb _ _ J2.kIn rfl) (.cons rfl .nil) rfl ?_
    intro hr'
    have G := LamX.told_gives (X := X) (Ng := Ng) (x := x) (a := a) (q := X.env.qual ++ "<lambda>") (ret := ret) (g := gf) (cdg := cdv) (j := j) (p1 := p1) (p2 := p2) (p3 := p3) (p4 := p4) (p5 := p5) (p6 := p6) (p7 := p7) (p8 := p8) hec hmc dec hst
    refine Exists.elim (G h1.objs.size c' _ H1 Q (fun E H' Q' => RdE X.K X.mg g (fun cls d _ H => E cls d H) fb σ H' Q')
      (fun W' pn xe E q1 q2 tk' hW => LamX.pe_act (i := 0) J2 L hf hfn hfr (hbind _ _ _ _ _) tk' hW hr' (fun A outer s H hr2 => hbody A outer s H E _ c' ⟨hr2, takes_of rfl rfl rfl rfl, passes_of rfl⟩) hN0 hva da dca) lt.code ⟨F0, H0, _, z, a1.now, ?_⟩) (fun t' h => ⟨t', h.1.nox, h.2⟩)
    · have h' : E1 X.K X.mg g W F0 H0 σ _ _ z (evTold okc ret fb z) Q := E1.from a1 h
      unfold evTold at h'
      generalize fb z = r at h'
      cases r with
      | ok d z2 => exact h'
      | err c2 z2 =>
        simp only at h'
        split at h'
        · rename_i hok
          exact fun F' H' C af em => ⟨true, hex c2 C hok em, fun _ => h' F' _ H' af rfl, fun w => nomatch w⟩
        · exact h'.elim
      | stuck => exact h'
  refine wpAny_call (codeAny_mono cr ?_)
  rintro (e | fl) s2 hq
  · exact (show False from hq).elim
  · cases fl with
    | ret u => exact J2.after hq
    | next => exact hq.elim
    | brk => exact hq.elim
    | cont => exact hq.elim
end
end DL

set_option Elab.async false
set_option linter.all false
set_option maxRecDepth 100000
set_option autoImplicit false
/-! DL10: lambdas that are kept in lists, and told later. -/
namespace DL
open PySem PySem.Spec PyProof.Rows L2

theorem lamO_ok {P : Program} {w : World} {H : Hp} {h : Heap} {f c' : Addr} {i : LamI} {pm ctv : Value} (e : h.get? f = some (PySem.W.kla_obj "<lambda>" i.qual i.params i.body i.scope i.clo pm c' ctv)) : ObjOk P w H h f (LamO f c' i) :=
  ⟨⟨pm, ctv, e⟩, ⟨_, e⟩, fun h1 h2 ⟨pm, ctv, a⟩ k => ⟨pm, ctv, k _ a⟩⟩

section
variable {X : Cx} {g : Gh} {W : WX} {pos : Pos} {fb : ME}
/-- what is kept of a lambda -/
def lamI (X : Cx) (params : Arguments) (body : Expr) (scope : Scope) : LamI := ⟨X.env.qual ++ "<lambda>", params, body, scope, cloFrom X.env.cells scope.names []⟩
/-- lambda: body, kept -/
theorem de_lam {c P : Addr} {k : Nat} {params : Arguments} {body : Expr} {scope : Scope} {lpos : Pos} (hk : g.lams[k]? = some (lamI X params body scope)) (TB : LamX.TabB X.base X.mg c P) (hP : LtOk g P (X.env.qual ++ "<lambda>")) (hcode : X.env.code = .ref c) (L : LamX.LamS X.env.scope scope)
    (hdef : defaultsOf params X.env = ([], [])) : DE X g W (.Lambda params body scope lpos) (fun z => .ok (.lam k) z) := by
  constructor
  rintro pins s σ H Q I ⟨F0, H0, F, z, n, h⟩
  refine lam_mk (g := g) I TB hcode (n.ok.tabs _ hP.mem) hdef (L.has I.ok) ?_
  intro c' pm ctv H1 h1 tk J lt big
  have a1 := n.lam hP lt
  have hfn : H1 h1.objs.size = none := J.hok.fresh (Nat.le_refl _)
  obtain ⟨st, ok'⟩ := a1.now.ok.newF (o := LamO h1.objs.size c' (lamI X params body scope)) hfn (fun ps q => by unfold LamO at q; cases q)
  have J2 := J.laid (t' := tk) (h' := h1.push (PySem.W.kla_obj "<lambda>" (X.env.qual ++ "<lambda>") params body scope (cloFrom X.env.cells scope.names []) pm c' ctv)) (a := h1.objs.size) (o := LamO h1.objs.size c' (lamI X params body scope)) (fun b o e => Heap.get?_push_of_some _ e) (Nat.le_refl _)
    (lamO_ok (Heap.get?_push_size h1 (o := PySem.W.kla_obj "<lambda>" (X.env.qual ++ "<lambda>") params body scope (cloFrom X.env.cells scope.names []) pm c' ctv) rfl))
  refine ⟨.ref h1.objs.size, _, J2, rfl, ?_⟩
  have hne : c' ≠ h1.objs.size := ne_of_none lt.code hfn
  exact h _ _ _ (a1.trans (a1.now.aft st ok')) ⟨_, c', _, rfl, hk, upd_same, by rw [upd_ne hne, upd_same]; rfl⟩
end

section
variable {X : Cx} {pins : List (Addr × Obj)} {σ : L2.St} {H HZ : Hp} {s s1 : Shared}
/-- a(), of a kept lambda of X, in the def that got it -/
theorem pe_actK {CXg : CXT} {Eg : XK} {Ng : List Str} {qg : Str} {sg : Scope} {g f c' : Addr} {cdg : Value} {li : LamI} {k i : Nat} {a : Str} {pn : List (Addr × Obj)} {xe : Value → Shared → Prop} {W : WX} {E : XK} {tb : TE} {p1 p2 : Pos}
    (I : Inv X pins σ H s) (L : LamX.LamS X.env.scope li.scope) (hcl : li.clo = cloFrom X.env.cells li.scope.names []) (hqq : li.qual = X.env.qual ++ "<lambda>")
    (hbind : ∀ (pm cv ctv : Value), bindArgs (PySem.W.kla_fn "<lambda>" li.qual li.params li.body li.scope li.clo pm cv ctv) ⟨[], []⟩ = pure [])
    (tk : Takes ((cxOf CXg X.prog X.w X.K X.mg X.base Ng qg sg g cdg X.A X.stack s H Eg).tr pn xe) W) (hW : ∀ cls d σ' H', E cls d H' → W cls d σ' H') (hr : Room (k + 1) (X.A.deeper (envOfC qg sg s.heap.objs.size g cdg)))
    (hbody : ∀ (A : Around) (outer : List Env) (s : Shared) (H : Hp), Room k (A.deeper (LamX.lamEnv X li.scope s.heap.objs.size f c')) → PE (LamX.lamCx X A outer s H E li.scope f c') li.body tb)
    (hN : Ng[i]? = some a) (hv : Vis sg a) (hd : (a == ("__debug__" : Str)) = false) (hcd : (a == ("__classdict__" : Str)) = false) :
    PE ((cxOf CXg X.prog X.w X.K X.mg X.base Ng qg sg g cdg X.A X.stack s H Eg).tr pn xe) (.Call (.Name a p1) [] [] p2)
      (fun σZ HZ Q => σZ[i]? = some (some (.ref f)) ∧ HZ c' = some (LamX.CodeO c' li.qual) ∧ HZ f = some (LamO f c' li) ∧ tb σ HZ Q) := by
  obtain ⟨q0, params, body, scope, clo⟩ := li
  simp only at L hcl hbind hbody hqq
  subst hcl hqq
  constructor
  rintro pinsZ sZ σZ HZ Q IZ ⟨hs, hc, hO, ht⟩
  simp only at hc
  have g1 := (pe_var (pos := p1) (i := i) hN hv hd hcd).run pinsZ sZ σZ HZ (fun v H1 => v = .ref f ∧ H1 = HZ) IZ ⟨.ref f, hs, rfl, rfl⟩
  refine wpAny_Call_Name_kw (thn g1 ?_)
  rintro u s1 ⟨v, H1, I1, r1, rfl, rfl⟩
  obtain rfl : u = Value.ref f := r1
  obtain ⟨⟨pm, ctv, of1⟩, _, _⟩ := I1.hok f _ hO
  obtain ⟨⟨oc, vs, t, hoc, hdc, hvc⟩, _, _⟩ := I1.hok c' _ hc
  have un : Un (frs X.stack) [] H H1 s.heap s1.heap := I1.base
  refine PySem.W.callWith_F0 ⟨_, _, _, _, of1⟩ ?_
  have rc : codeAny (model X.prog X.w) (X.A.deeper (envOfC qg sg s.heap.objs.size g cdg)) (.call (.ref f) ⟨[], []⟩) (CR (L2.CX X.prog X.w) (envOfC qg sg s.heap.objs.size g cdg :: X.stack) X.prog X.w H1 s1 Q E) s1 := by
    refine PySem.W.kla_callFunE hr.depth of1 rfl L.co L.gen rfl ⟨c', oc, vs, t, rfl, hoc, hdc, hvc⟩ ?_
    rw [hbind]
    refine wpAny_pure (wpAny_newFunctionEnv (fun y hy => (L.own y hy).2) (fun y hy => absurd hy (by simp)) (fun h₁ hns hsb => ⟨I1.nolimit.fresh _ hsb, ?_⟩) L.kind)
    show codeAny _ _ (.expr body (LamX.lamEnv X scope s1.heap.objs.size f c')) _ _
    have J := LamX.lam_start2 (A := X.A.deeper (envOfC qg sg s.heap.objs.size g cdg)) (outer := envOfC qg sg s.heap.objs.size g cdg :: X.stack) (E := E) (f := f) (c' := c') (tk := s1.toks + ([] : List (Str × Value)).length) I L I1.env0 hr.hd un hns
      (fun b o e => hsb.extBut b o (Nat.ne_of_lt (Heap.lt_size e)) (Heap.get?_push_of_some _ e))
    refine PySem.W.kla_codeExpr (wpAny_mono ((hbody _ _ s1 H1 (hr.deeper _)).run [] _ _ H1 Q J ht) ?_ (fun _ _ w => w))
    rintro v s' ⟨w', H', J', rv, q⟩
    exact ⟨w', H', J'.os, J'.bare, J'.base, J'.hok, rv, q⟩
  refine wpAny_call (codeAny_mono rc ?_)
  rintro (e | fl) s' hq
  · exact (passes_call tk hW) pinsZ σZ H1 s1 e s' I1 hq
  · cases fl with
    | ret u => exact I1.after hq
    | next => exact hq.elim
    | brk => exact hq.elim
    | cont => exact hq.elim
end

section
variable {X : Cx} {g : Gh} {W : WX} {pos : Pos} {fb : ME}
def evToldK (okc : Str → Bool) (ret : Str) (i : Nat) (Lf : Nat → ME) : ME := fun z => match z.ρ[i]? with
  | some (.d (.lam k)) => evTold okc ret (Lf k) z
  | _ => .stuck
/-- _told(f), of a lambda of this very def -/
theorem de_toldK {x ec ret y : Str} {okc : Str → Bool} {k i : Nat} {Lf : Nat → ME} {p py : Pos} (T : Told X.K X.mg x ec ret (fun c => okc c = true)) (on : On X W (k + 2)) (hN : X.N[i]? = some y) (hv : Vis X.env.scope y)
    (hl : ∀ (n : Nat) (li : LamI), g.lams[n]? = some li → LamX.LamS X.env.scope li.scope ∧ li.clo = cloFrom X.env.cells li.scope.names [] ∧ li.qual = X.env.qual ++ "<lambda>" ∧ (∀ (pm cv ctv : Value), bindArgs (PySem.W.kla_fn "<lambda>" li.qual li.params li.body li.scope li.clo pm cv ctv) ⟨[], []⟩ = pure []) ∧
      ∀ (A : Around) (outer : List Env) (s : Shared) (H : Hp) (E : XK) (f c' : Addr), On (LamX.lamCx X A outer s H E li.scope f c') (fun cls d _ H => E cls d H) k → DE (LamX.lamCx X A outer s H E li.scope f c') g (fun cls d _ H => E cls d H) li.body (Lf n))
    (hg : Gl X x := by rfl) (hdy : (y == ("__debug__" : Str)) = false := by decide) (hcy : (y == ("__classdict__" : Str)) = false := by decide) : DE X g W (.Call (.Name x p) [.Name y py] [] pos) (evToldK okc ret i Lf) := by
  obtain ⟨gf, CS, oc, od, pg, sg, dV, kV, doc, pm0, cdv, ct, an, osl, Ng, a, j, p1, p2, p3, p4, p5, p6, p7, p8, hm, hk, lk, hcg, hb, Sg, hN0, hva, hec, hmc, da, dca, dec, dx, hst, hex⟩ := T.ex
  constructor
  rintro pins s σ H Q I ⟨F0, H0, F, z, n, h⟩
  unfold evToldK at h
  split at h
  · rename_i kk e
    obtain ⟨v, ev, f, c', li, rfl, e1, e2, e3⟩ := n.sl.at_ _ _ e
    obtain ⟨L, hcl, hqq, hbind, hbody⟩ := hl kk li e1
    apply wpAny_Call_Name_kw
    refine ld_glob I hg hm ?_ dx
    refine PySem.W.callWith_K I.ok.mod.kin hk ?_ (by rfl) (by rfl)
    have g1 := (pe_var (pos := py) (i := i) hN hv hdy hcy).run pins s σ H (fun v H1 => v = .ref f ∧ H1 = H) I ⟨.ref f, ev, rfl, rfl⟩
    show wpAny _ _ (spliced ((false, eval (.Name y py) X.env) :: backTo pos (starEach [] X.env))) _ _ s
    refine Calls.spliced_cons (thn g1 ?_)
    rintro u s1 ⟨v, H1, I1, r1, rfl, rfl⟩
    obtain rfl : u = Value.ref f := r1
    refine Calls.spliced_nil ⟨I1.kIn, ?_⟩
    have cr : codeAny (model X.prog X.w) X.A (.call (.ref gf) ⟨[.ref f], []⟩) (CR C8.CX0 X.stack X.prog X.w H1 s1 Q C8.E0) s1 := by
      refine LamX.run_ofS (us := [.ref f]) (vs := [.ref f]) lk hcg Sg on.room I1.env0 (hb _ _ I1.kIn rfl) (.cons rfl .nil) rfl ?_
      intro hr'
      have G := LamX.told_gives (X := X) (Ng := Ng) (x := x) (a := a) (q := li.qual) (ret := ret) (g := gf) (cdg := cdv) (j := j) (p1 := p1) (p2 := p2) (p3 := p3) (p4 := p4) (p5 := p5) (p6 := p6) (p7 := p7) (p8 := p8) hec hmc dec hst
      refine Exists.elim (G f c' _ H1 Q (fun E H' Q' => H' f = some (LamO f c' li) ∧ RdE X.K X.mg g (fun cls d _ H => E cls d H) (Lf kk) σ H' Q')
        (fun W' pn xe E q1 q2 tk' hW => pe_actK (i := 0) I1 L hcl hqq hbind tk' hW hr' (fun A outer s H hr2 => hbody A outer s H E _ c' ⟨hr2, takes_of rfl rfl rfl rfl, passes_of rfl⟩) hN0 hva da dca) (n.ok.sub _ _ e3) ⟨n.ok.sub _ _ e2, F0, H0, F, z, n, ?_⟩) (fun t' h => ⟨t', h.1.nox, h.2⟩)
      unfold evTold at h
      generalize Lf kk z = r at h
      cases r with
      | ok d z2 => exact h
      | err c2 z2 =>
        simp only at h
        split at h
        · rename_i hok
          exact fun F' H' C af em => ⟨true, hex c2 C hok em, fun _ => h F' _ H' af rfl, fun w => nomatch w⟩
        · exact h.elim
      | stuck => exact h
    refine wpAny_call (codeAny_mono cr ?_)
    rintro (e | fl) s2 hq
    · exact (show False from hq).elim
    · cases fl with
      | ret u => exact I1.after hq
      | next => exact hq.elim
      | brk => exact hq.elim
      | cont => exact hq.elim
  · exact h.elim
end
end DL

set_option Elab.async false
set_option linter.all false
set_option maxRecDepth 100000
set_option autoImplicit false
/-! DL11: the dice, read and written; a law's loop over its one turn; the end of a row. -/
namespace DL
open PySem PySem.Spec PyProof.Rows L2

def sList (s : S) : List Int := [s.1, s.2.1, s.2.2]
def ixS (s : S) (d i : D) : Option D := match d, i with
  | .dice, .int k => (atI (sList s) k).map D.int
  | _, _ => none
def rd2s (K : PySem.W.Frag) (mg : Str → Option Value) (g : Gh) (h : S → D → D → Option D) : R2 := fun x y H Q => ∃ F s d e r, Ok K g F s H ∧ Rep K mg g F d x ∧ Rep K mg g F e y ∧ h s d e = some r ∧ Ret K mg g F s H r Q
def ev2s (h : S → D → D → Option D) (fa fb : ME) : ME := fun z => (fa z).bind fun d z1 => (fb z1).bind fun e z2 => lift (h z2.s d e) z2
theorem atI_map {α β : Type} (f : α → β) {xs : List α} {k : Int} {v : α} (h : atI xs k = some v) : atI (xs.map f) k = some (f v) := by
  unfold atI at h ⊢
  rw [List.length_map]
  cases e : ixN xs.length k with
  | none => rw [e] at h; cases h
  | some j =>
    rw [e] at h
    have h : xs[j]? = some v := h
    show (xs.map f)[j]? = some (f v)
    rw [List.getElem?_map, h]; rfl

section
variable {X : Cx} {g : Gh} {W : WX} {pos : Pos} {a b e : Expr} {fa fb fe : ME}
theorem od_ixs : IxR X (rd2s X.K X.mg g ixS) := by
  intro va sl pins s σ H x y v u Q I rx ry h hs
  obtain ⟨F, t, d, e, r, ok, h1, h2, hr, q⟩ := h
  cases d <;> cases e <;> simp only [ixS] at hr <;> try (cases hr; done)
  rename_i k
  cases h2
  obtain ⟨p, ep, rfl⟩ := h1
  cases e : atI (sList t) k with
  | none => rw [e] at hr; cases hr
  | some i =>
    rw [e] at hr; cases hr
    exact ix_list va sl pins s σ H _ _ v u Q I rx ry ⟨p, (sList t).map V.int, _, _, rfl, rfl, .inl (.inl (ok.dice p ep)), atI_map V.int e, q.give ok rfl⟩ hs
theorem use2s {K : PySem.W.Frag} {mg : Str → Option Value} {F0 H0 F H : Hp} {σ : L2.St} {z : Z} {Q : VK} {x y : V} {h : S → D → D → Option D} {d e : D} (n : Now K mg g F0 H0 F H z σ) (r1 : Rep K mg g F d x) (r2 : Rep K mg g F e y) (q : E1 K mg g W F0 H0 σ F H z (lift (h z.s d e) z) Q) : rd2s K mg g h x y H Q := by
  unfold lift at q
  split at q
  · rename_i r er
    exact ⟨F, z.s, d, e, r, n.ok, r1, r2, er, E1.ret q n⟩
  · exact q.elim
theorem go2s {h : S → D → D → Option D} {σ : L2.St} {H : Hp} {Q : VK} (q : RdE X.K X.mg g W (ev2s h fa fb) σ H Q) : tOp (rd2s X.K X.mg g h) (RdE X.K X.mg g W fa) (RdE X.K X.mg g W fb) σ H Q := by
  obtain ⟨F0, H0, F, z, n, q⟩ := q
  refine ⟨F0, H0, F, z, n, (E1.bindE q).imp fun v H1 ⟨d, z1, F1, a1, r1, _, h1⟩ => ⟨F0, H0, F1, z1, a1.now, (E1.bindE h1).imp fun w H2 ⟨e, z2, F2, a2, r2, _, h2⟩ => ?_⟩⟩
  exact use2s a2.now (Rep.mono a2.sub _ _ r1) r2 h2
theorem de_ixs (ha : DE X g W a fa) (hb : DE X g W b fb) (hs : PlainIx b := by exact fun _ _ => rfl) : DE X g W (.Subscript a b pos) (ev2s ixS fa fb) := PE_weak (pe_ix od_ixs ha hb hs) fun σ H Q q => go2s q
end

section
variable {K : PySem.W.Frag} {mg : Str → Option Value} {g : Gh} {W : WX} {F0 H0 F H : Hp} {σ : L2.St} {z : Z}
/-- the dice are changed -/
theorem Now.dice {a : Addr} {s' : S} (n : Now K mg g F0 H0 F H z σ) (ha : g.a0 = some a) : Now K mg g F0 H0 F (L2.upd H a (diceV s')) ⟨z.ρ, s'⟩ σ := by
  have hd := n.ok.dice a ha
  have hF := n.ok.dF a ha
  have nt : ∀ {b : Addr} {ps : Array Value}, H b = some (.tbl ps) → b ≠ a := fun {b ps} e q => by rw [q, hd] at e; unfold diceV at e; cases e
  have th : ∀ b, H b ≠ none → L2.upd H a (diceV s') b ≠ none := fun b e => by
    by_cases hb : b = a
    · rw [hb, upd_same]; simp
    · rw [upd_ne hb]; exact e
  have kp : Keep g H (L2.upd H a (diceV s')) := fun b o e q w => by
    have hb : b ≠ a := fun q => w (by rw [q]; exact ha)
    rw [upd_ne hb]; exact e
  have st : Step g F H F (L2.upd H a (diceV s')) := ⟨Sub.refl F, fun b o e q => (by rw [e] at q; cases q), kp, th⟩
  refine n.step (s' := s') st ⟨fun b o e => ?_, n.ok.nota, fun p hp => ?_, fun P hP => ?_, n.ok.dF, fun a' e => ?_⟩
  · rw [upd_ne (ne_of_none e hF)]; exact n.ok.sub b o e
  · obtain ⟨ps, e1, e2, e3⟩ := n.ok.tabs p hp
    refine ⟨ps, by rw [upd_ne (nt e1)]; exact e1, e2, fun pos cv hc => ?_⟩
    obtain ⟨c, e4, e5⟩ := e3 pos cv hc
    refine ⟨c, e4, ?_⟩
    have hb : c ≠ a := fun q => by rw [q, hd] at e5; unfold diceV LamX.CodeO at e5; cases e5
    rw [upd_ne hb]; exact e5
  · obtain ⟨ps, e1, e2⟩ := n.ok.gtab P hP
    exact ⟨ps, by rw [upd_ne (nt e1)]; exact e1, e2⟩
  · rw [ha] at e; cases e; exact upd_same
end
def sSet (s : S) (k : Int) (i : Int) : Option S := match k with
  | 0 => some (i, s.2.1, s.2.2)
  | 1 => some (s.1, i, s.2.2)
  | 2 => some (s.1, s.2.1, i)
  | _ => none
theorem sSet_list {s s' : S} {k i : Int} (h : sSet s k i = some s') : ∃ j, ixN ((sList s).map V.int).length k = some j ∧ ((sList s).map V.int).set j (.int i) = (sList s').map V.int := by
  unfold sSet at h
  split at h <;> cases h
  · exact ⟨0, rfl, rfl⟩
  · exact ⟨1, rfl, rfl⟩
  · exact ⟨2, rfl, rfl⟩
def evDset (fe fo : ME) (k : Int) : MS := fun z => (fe z).bind fun d z1 => (fo z1).bind fun o z2 => match d, o with
  | .int i, .dice => match sSet z2.s k i with
    | some s' => .ok .nx ⟨z2.ρ, s'⟩
    | none => .stuck
  | _, _ => .stuck
section
variable {X : Cx} {g : Gh} {W : WX} {pos : Pos} {o e : Expr} {fo fe : ME}
/-- dice[k] = e -/
theorem dq_dset {k : Int} {j : Nat} {p1 p2 : Pos} (he : DE X g W e fe) (ho : DE X g W o fo)
    (ha : ∀ v, assign (.Subscript o (.Constant (.int k) j p1) p2) X.env v = (do
      let ov ← holding [v] (eval o X.env)
      let iv ← holding [v, ov] (eval (.Constant (.int k) j p1) X.env)
      standAt p2
      holding [v, ov, iv] (setItem ov iv v)
      release [v, ov, iv] []) := by intro _; rfl)
    (hs : swapsWithSole [.Subscript o (.Constant (.int k) j p1) p2] e pos.line X.env = pure false := by rfl) (hw : swappedStores [.Subscript o (.Constant (.int k) j p1) p2] e X.env = pure none := by rfl) (h1 : (assignEach [.Subscript o (.Constant (.int k) j p1) p2] X.env).map (·.2) = [assign (.Subscript o (.Constant (.int k) j p1) p2) X.env] := by rfl) :
    DQ X g W (.Assign [.Subscript o (.Constant (.int k) j p1) p2] e pos) (evDset fe fo k) := by
  refine PS_weak (ps_asg he (pg_sub ho pe_int set_list ha) hs hw h1) fun D σ H ⟨F0, H0, F, z, n, h⟩ => ⟨F0, H0, F, z, n, (E1.bindS h).imp fun v H1 ⟨d, z1, F1, a1, r1, er1, h1⟩ => ?_⟩
  clear er1
  refine ⟨F0, H0, F1, z1, a1.now, (E1.bindS h1).imp fun w H2 ⟨q, z2, F2, a2, r2, er2, h2⟩ => ?_⟩
  clear er2
  have key : ∃ i s', d = .int i ∧ q = .dice ∧ sSet z2.s k i = some s' ∧ S2 X.K X.mg g W F0 H0 F2 (.ok .nx ⟨z2.ρ, s'⟩) D := by
    cases d <;> cases q <;> try exact h2.elim
    simp only at h2
    split at h2
    · exact ⟨_, _, rfl, rfl, ‹_›, h2⟩
    · exact h2.elim
  obtain ⟨i, s', rfl, rfl, es, h3⟩ := key
  cases r1
  obtain ⟨p, ep, rfl⟩ := r2
  obtain ⟨jj, e1, e2⟩ := sSet_list es
  refine ⟨p, _, k, jj, rfl, rfl, a2.now.ok.dice p ep, e1, ?_⟩
  show D.nx σ (L2.upd H2 p (.lst (((sList z2.s).map V.int).set jj (.int i))))
  rw [e2]
  exact h3.next (a2.now.dice ep)
end
end DL

set_option Elab.async false
set_option linter.all false
set_option maxRecDepth 100000
set_option autoImplicit false
/-! DL12: a law's loop over its one turn. -/
namespace DL
open PySem PySem.Spec PyProof.Rows L2
/-- nothing is frozen -/
def F_0 : Hp := fun _ => none
section
variable {X : Cx} {W : WX} {pos : Pos} {iter : Expr} {body : List Stmt} {fb : MS} {fi : ME}
theorem ps_turn {i : Nat} {x : Str} {px : Pos} {g0 : Gh} {gq : Addr → Gh} (hT : ∀ q, (gq q).T = g0.T) (hG : ∀ q, (gq q).GT = g0.GT) (h0 : ∀ q, (gq q).a0 = some q) (hp : PassesOwn (model X.prog X.w) X.A X.env X.xe) (hc : X.calm = true) (hN : X.N.Nodup)
    (hi : X.N[i]? = some x) (hx : Loc X.env.scope x) (hit : DE X g0 W iter fi) (hb : ∀ q, DQs X (gq q) W body fb) (hs : ∀ x, foldedSetIterable iter X.env x = pure x := by intro _; rfl) (hf : X.fn x = true ∨ X.env.scope.names.lookup x = some .local := by first | exact .inl rfl | exact .inr rfl | assumption) :
    PS X (.For (.Name x px) iter body [] pos) (fun D σ H => ∃ (F0 H0 F : Hp) (z : Z) (a b c : Int) (z1 z2 : Z), Now X.K X.mg g0 F0 H0 F H z σ ∧ fi z = .ok (.lst [.lst [.int a, .int b, .int c]]) z1 ∧
      fb ⟨(List.replicate z.ρ.length .un).set i (.d .dice), (a, b, c)⟩ = .ok .nx z2 ∧ ∀ (q : Addr) (F1 H1 F' : Hp) (σ' : L2.St) (H' : Hp), Now X.K X.mg (gq q) F1 H1 F' H' z2 σ' → D.nx σ' H') := by
  have hb' : PSs X body (fun D σ H => ∃ q, RdQ X.K X.mg (gq q) W fb D σ H) := ⟨fun pins s σ H D I ⟨q, h⟩ => (hb q).run pins s σ H D I h⟩
  refine PS_weak (ps_for hp hc (pi_sq hit) (pg_name hN hi hx hf) hb' hs) ?_
  rintro D σ H ⟨F0, H0, F, z, a, b, c, z1, z2, n, e1, e2, hD⟩
  refine ⟨F0, H0, F, z, n, ?_⟩
  rw [e1]
  rintro F1 v H1 af ⟨p, vs, rfl, hp1, u, us, rfl, ⟨q, ws, rfl, hq1, r1⟩, rfl⟩
  obtain ⟨w1, l1, rfl, rfl, w2, l2, rfl, rfl, w3, l3, rfl, rfl, rfl⟩ := r1
  have hpH := af.now.ok.sub _ _ hp1
  have hqH := af.now.ok.sub _ _ hq1
  have npq : p ≠ q := fun e => by rw [e, hqH] at hpH; cases hpH
  have sq : SqL X.K H1 p [.ref q] := .inl (.inl hpH)
  refine ⟨p, rfl, .inl ⟨⟨_, sq⟩, fun i m σ' H' => (i = 0 ∧ m = 1 ∧ σ' = σ ∧ H' = H1) ∨ (i = 1 ∧ m = 0 ∧ H' p = some (.lst [.ref q]) ∧ D.nx σ' H'), ⟨1, .inl ⟨rfl, rfl, rfl, rfl⟩⟩, ?_⟩⟩
  rintro k m σ2 H2 (⟨rfl, rfl, rfl, rfl⟩ | ⟨rfl, rfl, hp2, hd⟩)
  · refine .inr ⟨⟨_, _, sq, rfl⟩, fun σ' H' => H' p = some (.lst [.ref q]) ∧ D.nx σ' H', fun σ' H' h => ⟨0, by omega, .inr ⟨rfl, rfl, h.1, h.2⟩⟩, ?_⟩
    rintro x2 H3 ⟨rfl, hy⟩
    obtain rfl : V.ref q = x2 := Option.some.inj (hy _ sq)
    have ok1 : Ok X.K (gq q) F_0 (a, b, c) H3 := ⟨fun b o e => (by cases e), fun b ps e => (by cases e), by rw [hT]; exact af.now.ok.tabs, by rw [hG]; exact af.now.ok.gtab, fun _ _ => rfl, fun a' e => by rw [h0] at e; cases e; exact hqH⟩
    have rl : ∀ {j : Nat} {y : SV}, ((List.replicate z.ρ.length SV.un).set i (.d .dice))[j]? = some y → (j = i ∧ y = .d .dice ∧ j < σ2.length) ∨ y = .un := fun {j y} e => by
      by_cases hj : j = i
      · subst hj
        have hl : j < z.ρ.length := by
          have := (List.getElem?_eq_some_iff.mp e).1
          simpa using this
        rw [List.getElem?_set_self (by simpa using hl)] at e
        cases e
        exact .inl ⟨rfl, rfl, by rw [← n.sl.len]; exact hl⟩
      · rw [List.getElem?_set_ne (Ne.symm hj)] at e
        have := List.getElem?_replicate (n := z.ρ.length) (a := SV.un) (i := j)
        rw [this] at e
        split at e
        · cases e; exact .inr rfl
        · cases e
    have now1 : Now X.K X.mg (gq q) F_0 H3 F_0 H3 ⟨(List.replicate z.ρ.length .un).set i (.d .dice), (a, b, c)⟩ (σ2.set i (some (.ref q))) := by
      refine ⟨Step.refl _ _, ok1, by simpa using n.sl.len, fun j y e => ?_, fun j k es fs e1 e2 _ => ?_⟩
      · rcases rl e with ⟨rfl, rfl, hl⟩ | rfl
        · exact ⟨.ref q, List.getElem?_set_self hl, q, h0 q, rfl⟩
        · trivial
      · rcases rl e1 with ⟨_, h, _⟩ | h <;> cases h
    refine ⟨q, F_0, H3, F_0, _, now1, ?_⟩
    rw [e2]
    intro F' σ' H' _ n'
    have kp := n'.st.keep p _ hpH (fun ps e => by cases e) (by rw [h0]; intro e; cases e; exact npq rfl)
    exact ⟨kp, hD q _ _ _ _ _ n'⟩
  · exact .inl ⟨⟨_, .inl (.inl hp2), Nat.le_refl _⟩, hd⟩
end
end DL

set_option Elab.async false
set_option linter.all false
set_option maxRecDepth 100000
set_option autoImplicit false
/-! DL13: the law's def; the end of a row with the tables. -/
namespace DL
open PySem PySem.Spec PyProof.Rows L2
def spLaw (K : PySem.W.Frag) (mg : Str → Option Value) (g : Gh) (P : List Int → Prop) : Sp := fun vs H Q _ => ∃ F ks s, vs.length = 1 ∧ Ok K g F s H ∧ Reps K mg g F [.scr (ks.map D.int)] vs ∧ P ks ∧ ∀ H', Q (.bl true) H'
theorem fn_law {P : Program} {w : World} {K : PySem.W.Frag} {mg : Str → Option Value} {base : Heap} {g : Gh} {x qual p : Str} {st : Stmt} {f : Addr} {fd : FuncData} {cdv : Value} {N : List Str} {k : Nat} {PI : List Int → Prop} (F : FunE K x qual st [] f fd cdv) (SC : FnScope N [p] (defScope st))
    (hb : ∀ (A : Around) (outer : List Env) (s : Shared) (H : Hp) (E : XK), On (cxOf (L2.CX P w) P w K mg base N qual (defScope st) f cdv A outer s H E) (fun cls d _ H => E cls d H) k →
      ∃ t, PSs (cxOf (L2.CX P w) P w K mg base N qual (defScope st) f cdv A outer s H E) (defBody st) t ∧
        ∀ (F H : Hp) (ks : List Int) (s : S) (σ : L2.St) (De : Ends), PI ks → Now K mg g F H F H ⟨.d (.scr (ks.map D.int)) :: List.replicate (N.length - 1) .un, s⟩ σ → (∀ H', De.rt (.bl true) H') → t De σ H) :
    FnOk P w K mg base (L2.CX P w) (k + 1) f fd [p] (spLaw K mg g PI) := by
  obtain ⟨oc, od, dV, kV, doc, pm, an, ct, osl, rfl, lk, hcd, _⟩ := F.ex
  refine fn_of lk hcd SC (fun vs H Q E h => ?_) (fun A outer s H vs Q E hr h => ?_)
  · obtain ⟨_, _, _, e, _⟩ := h
    exact e
  · obtain ⟨F1, ks, s1, el, ok, r, hP, hQ⟩ := h
    obtain ⟨t, ht, hg⟩ := hb A outer s H E ⟨hr, takes_of rfl rfl rfl rfl, passes_of rfl⟩
    exact ⟨t, ht, hg F1 H ks s1 _ _ hP (now_start (N := N) ok r) hQ⟩
theorem cx_no {P : Program} {w : World} {H : Hp} {s : Shared} {e : Value} {s' : Shared} (h : L2.CX P w [] H s (fun _ _ _ => False) e s') : False := by
  obtain ⟨_, _, _, _, _, _, _, _, _, _, _, _, z⟩ := h
  exact z
/-- what is known of a def that has lambdas or generator expressions -/
structure CodeAt (q : Program) (K : PySem.W.Frag) (x : Str) (c P : Addr) : Prop where
  rec_ : ∃ r, (recsOf q).find? (fun e => e.name == x) = some r
  tab : PySem.W.tabIn K x = some (c, P)
  no : K.lookup P = none
theorem walk_dl {l : PySem.W.OpenLaw} {n k : Nat} {q : Program} {loose : List Str} {XP : (Str → Option Value) → Heap → Prop} {YP : World → Heap → Prop} {d : DefRec} {K : Params → PySem.W.Frag} {x : Str} (cs : List (Str × Addr × Addr))
    (hn : l.most = some n) (hn2 : n ≤ sizeLine) (hdf : d.params.defaults = []) (hr : Room k callerA) (hY : ∀ (w : World) (h : Heap), YP w h → (K w.params).In h)
    (hcs : ∀ (w : World), ∀ p ∈ cs, CodeAt q (K w.params) p.1 p.2.1 p.2.2)
    (F : ∀ (w : World) (mg : Str → Option Value) (fa : Addr) (h : Heap), YP w h → (K w.params).In h → h.Ns mainGlobals mg → mg d.name = some (.ref fa) →
      ∃ (fd : FuncData) (sp : Sp), (∀ (s : Shared) (u : Value), BindsTo s fd ⟨[u], []⟩ [(x, u)]) ∧
        (∀ (H : Hp) (a : Addr) (ns : List Int), ns.length ≤ n → (∀ z ∈ ns, Builtin.Int.intBits z ≤ 1048576) → (∀ p ∈ cs, H p.2.2 = some (.tbl #[])) → SqL (K w.params) H a (ns.map V.int) → sp [.ref a] H (fun v _ => v = .bl true) fun _ _ _ => False) ∧
        ∀ base : Heap, (K w.params).In base → base.Ns mainGlobals mg → (∀ p ∈ cs, LamX.TabB base mg p.2.1 p.2.2) → FnOk l.prog w (K w.params) mg base (L2.CX l.prog w) k fa fd [x] sp) :
    PySem.W.WalkO q loose XP YP l.row.toRowW d [] (fun f vs => PySem.call f vs) := by
  refine Att.attach_callB hn hdf ?_
  intro w s₀ s₁ mg mb fa o pm cd doc a vs ns G Y ho hd hcd hmg hobj hints hlen hbits hg
  have KX := hY w _ Y
  obtain ⟨fd, sp, hb, hsp, hF⟩ := F w mg fa _ Y KX G.T.g hmg
  have at_ : ∀ p ∈ cs.map (·.2), ∃ y ∈ cs, y.2 = p := fun p hp => List.mem_map.mp hp
  have T : ∀ p ∈ cs, PySem.W.CodeHd s₁.heap p.2.1 p.2.2 ∧ s₁.heap.get? p.2.2 = some (PySem.W.tabObj #[]) := fun p hp => by
    have C := hcs w p hp
    obtain ⟨r, er⟩ := C.rec_
    exact PySem.W.tab_of G.T KX er C.tab
  refine LamX.law_callTs (cs := cs.map (·.2)) KX G.T.g G.T.b G.T.builtins G.T.nolimit hg (fun p hp => ?_) (fun p hp => ?_) (fun p hp => ?_) G.T.bmain hobj hints (Nat.le_trans hlen hn2) hr (fun base hk hbn hT => hF base hk hbn fun p hp => hT p.2 (List.mem_map_of_mem hp)) hb
    (fun H hH hS => hsp H a ns hlen hbits (fun p hp => hH p.2 (List.mem_map_of_mem hp)) hS) fun H e s' h => cx_no h
  · obtain ⟨y, hy, rfl⟩ := at_ p hp
    exact (T y hy).2
  · obtain ⟨y, hy, rfl⟩ := at_ p hp
    exact (hcs w y hy).no
  · obtain ⟨y, hy, rfl⟩ := at_ p hp
    exact (T y hy).1
/-- the law's promise from the script and the empty tables -/
theorem spLaw_of {K : PySem.W.Frag} {mg : Str → Option Value} {g : Gh} {P : List Int → Prop} {H : Hp} {a : Addr} {ns : List Int} (h0 : g.a0 = none) (hT : ∀ p ∈ g.T, H p.1 = some (.tbl #[])) (hG : ∀ p ∈ g.GT, H p = some (.tbl #[])) (hS : SqL K H a (ns.map V.int)) (hP : P ns) :
    spLaw K mg g P [.ref a] H (fun v _ => v = .bl true) fun _ _ _ => False := by
  classical
  let F : Hp := fun b => match H b with
    | some (.tbl _) => none
    | o => o
  have su : Sub F H := fun b o e => by
    have e : (match H b with | some (.tbl _) => none | o => o) = some o := e
    split at e
    · cases e
    · exact e
  have Fa : ∀ {o : HO}, H a = some o → (∀ ps, o ≠ .tbl ps) → F a = some o := fun {o} e q => by
    show (match H a with | some (.tbl _) => none | o => o) = some o
    rw [e]
    split
    · rename_i ps h; cases h; exact absurd rfl (q _)
    · rfl
  have sF : SqL K F a (ns.map V.int) := by
    rcases hS with (h | ⟨o, h⟩) | h
    · exact .inl (.inl (Fa h fun ps q => by cases q))
    · exact .inl (.inr ⟨o, Fa h fun ps q => by cases q⟩)
    · exact .inr h
  have all : ∀ {p : Value} {cv : Value}, codeAmong ⟨0, 0, 0, 0⟩ ([] : List Value) = none := fun {_ _} => rfl
  refine ⟨F, ns, (0, 0, 0), rfl, ⟨su, fun b ps e => ?_, fun p hp => ⟨#[], hT p hp, ?_, fun pos cv h => ?_⟩, fun p hp => ⟨#[], hG p hp, ?_⟩, fun b e => (by rw [h0] at e; cases e), fun b e => (by rw [h0] at e; cases e)⟩, ⟨.ref a, [], rfl, ⟨a, ns.map V.int, rfl, sF, ?_⟩, rfl⟩, hP, fun _ => rfl⟩
  · have e : (match H b with | some (.tbl _) => none | o => o) = some (.tbl ps) := e
    split at e
    · cases e
    · rename_i h; exact h _ e
  · trivial
  · cases h
  · trivial
  · clear hS sF hP
    induction ns with
    | nil => rfl
    | cons n ns ih => exact ⟨.int n, _, rfl, rfl, ih⟩
end DL

set_option Elab.async false
set_option linter.all false
set_option maxRecDepth 100000
set_option autoImplicit false
/-! DL14: powers, loops over texts. -/
namespace DL
open PySem PySem.Spec PyProof.Rows L2
def opPow : D → D → Option D
  | .int i, .int j => if 0 ≤ j ∧ j ≤ 64 ∧ i.natAbs ≤ 16 then some (.int (i ^ j.toNat)) else none
  | _, _ => none
section
variable {X : Cx} {g : Gh} {W : WX} {tg a : Expr} {fa : ME}
theorem od_pow : OpR X (binaryOp .Pow) (rd2 X.K X.mg g opPow) := by
  intro pins s σ H x y v u Q I rx ry h
  obtain ⟨F, t, d, e, r, ok, h1, h2, hr, q⟩ := h
  cases d <;> cases e <;> simp only [opPow] at hr <;> try (cases hr; done)
  split at hr
  · rename_i hl
    cases h1; cases h2; cases hr
    exact op_pow pins s σ H _ _ v u Q I rx ry ⟨_, _, rfl, rfl, by unfold CPow; omega, q.give ok rfl⟩
  · cases hr
def strD (x : Str) : List D := x.cps.toList.map fun c => .str ⟨#[c]⟩
theorem ItD.str {K : PySem.W.Frag} {mg : Str → Option Value} {g : Gh} {F1 : Hp} {x : Str} : ItD K mg g (Its x) F1 (strD x) where
  go := fun i d F H s e su ok => by
    unfold strD at e
    rw [List.getElem?_map, Array.getElem?_toList] at e
    cases q : x.cps[i]? with
    | none => rw [q] at e; cases e
    | some c =>
      rw [q] at e
      have ed : D.str ⟨#[c]⟩ = d := Option.some.inj e
      refine ⟨(Array.getElem?_eq_some_iff.mp q).1, ?_⟩
      rintro v H' ⟨rfl, c', e', rfl⟩
      rw [q] at e'; cases e'
      subst ed
      exact ⟨F, Step.refl F H', ok, rfl⟩
  stop := fun i F H s e su ok => by
    have e : (strD x).length ≤ i := e
    unfold strD at e
    rw [List.length_map, Array.length_toList] at e
    exact e
def evStr (fa : ME) : ML := fun z => (fa z).bind fun d z1 => match d with
  | .str x => if x.length ≤ 16777216 then .ok (strD x) z1 else .stuck
  | _ => .stuck
theorem di_str (ha : DE X g W a fa) : DI X g W tg a (evStr fa) := by
  refine PI_weak (pi_str ha) fun σ H R' ⟨F0, H0, F, z, n, q⟩ => ⟨F0, H0, F, z, n, (E1.bindI q).imp fun v H1 ⟨d, z1, F1, a1, r1, _, h1⟩ => ?_⟩
  split at h1
  · split at h1
    · cases r1
      exact ⟨_, rfl, h1 F1 H1 _ (Aft.refl a1.now) ItD.str⟩
    · exact h1.elim
  · exact h1.elim
end
end DL

set_option Elab.async false
set_option linter.all false
set_option maxRecDepth 100000
set_option autoImplicit false
/-! DL15: what printed proofs lean on. -/
namespace DL
open PySem PySem.Spec PyProof.Rows L2
def evYes : MT := fun z => .ok true z
section
variable {X : Cx} {g : Gh} {W : WX} {pos : Pos} {a : Expr} {ft : MT}
theorem On.un {k : Nat} (on : On X W k) : X.A.units + 64 < cLine := by have := on.room.un; omega
theorem On.un5 {k : Nat} (on : On X W k) : X.A.units + 65 < cLine := by have := on.room.un; omega
theorem dts_nil : PTs X [] (RdT X.K X.mg g W evYes) := ⟨fun pins s σ H Q I ⟨F0, H0, F, z, n, h⟩ => pts_nil.run pins s σ H Q I (h F H (Aft.refl n))⟩
theorem dts_one (h : DT X g W a ft) : PTs X [a] (RdT X.K X.mg g W ft) := pts_one h
end
def blkB (N : List Str) (sc scope : Scope) (own : List (Str × Nat)) : Bool :=
  decide (scope.kind = .function) && (scope.names.all fun y => decide (scope.names.lookup y.1 = some y.2)) && (own.all fun p => decide (N[p.2]? = some p.1)) &&
  (scope.names.all fun y => !decide (y.2 = .free) || (decide (sc.names.lookup y.1 = some .cell) || decide (sc.names.lookup y.1 = some .free))) &&
  (scope.names.all fun y => !(decide (y.2 = .local) || decide (y.2 = .cell)) || ((own.map (·.1)).contains y.1 || !N.contains y.1))
theorem blk_of {N : List Str} {sc scope : Scope} {own : List (Str × Nat)} (h : blkB N sc scope own = true) : BlkOk N sc scope own := by
  unfold blkB at h
  simp only [Bool.and_eq_true, Bool.or_eq_true, Bool.not_eq_true', decide_eq_true_eq, decide_eq_false_iff_not, List.all_eq_true] at h
  obtain ⟨⟨⟨⟨h1, h2⟩, h3⟩, h4⟩, h5⟩ := h
  refine ⟨h1, h2, h3, fun y hy e => ?_, fun y hy e => ?_⟩
  · rcases h4 y hy with k | k
    · exact absurd e k
    · exact k
  · rcases h5 y hy with k | k | k
    · rw [Bool.or_eq_false_iff] at k
      rcases e with e | e
      · exact absurd e (of_decide_eq_false k.1)
      · exact absurd e (of_decide_eq_false k.2)
    · exact .inl (List.contains_iff_mem.mp k)
    · refine .inr fun w => ?_
      rw [List.contains_iff_mem.mpr w] at k
      cases k
def genB (scope : Scope) (x : Str) : Bool := decide (scope.kind = .function) && !scope.isCoroutine && (scope.names.all fun y => !decide (y.2 = .cell) && !decide (y.2 = .free)) && decide (scope.names.lookup (".0" : Str) = some NameKind.local) && decide (scope.names.lookup x = some .local)
theorem gen_of {env : Env} {scope : Scope} {x : Str} (h : genB scope x = true) : GxR.GenS env scope x := by
  unfold genB at h
  simp only [Bool.and_eq_true, Bool.not_eq_true', decide_eq_true_eq, decide_eq_false_iff_not, List.all_eq_true] at h
  obtain ⟨⟨⟨⟨h1, h2⟩, h3⟩, h4⟩, h5⟩ := h
  exact ⟨h1, h2, fun y hy => (h3 y hy).1, h4, h5, fun y hy e => absurd e (h3 y hy).2⟩

/-! ### facts of the world -/
/-- a class of errors -/
structure ErrAt (K : PySem.W.Frag) (mg : Str → Option Value) (x : Str) : Prop where
  ex : ∃ (C : Addr) (bmB : List Value) (B newId initId : String), ExcBaseFacts B newId initId bmB ∧ PySem.W.excIn K C bmB newId = true ∧ mg x = some (.ref C) ∧ PySem.W.keepIn K (.ref C) = true ∧ PySem.W.subIn K (.ref C) (.type "BaseException") = some true ∧ PySem.W.typeIn K (.ref C) = some (.type "type")
/-- a def, by its name -/
structure DefAt (K : PySem.W.Frag) (mg : Str → Option Value) (x : Str) (st : Stmt) (dvs : List V) (f : Addr) (fd : FuncData) (cdv : Value) : Prop where
  F : FunE K x x st dvs f fd cdv
  m : mg x = some (.ref f)
section
variable {X : Cx} {g : Gh} {W : WX} {pos : Pos}
theorem dq_raise2 {x m : Str} {j k : Nat} {p p2 p3 : Pos} (E : ErrAt X.K X.mg x) (on : On X W k) (hc : X.calm = true) (hg : Gl X x := by rfl) (hdb : (x == ("__debug__" : Str)) = false := by decide) : DQ X g W (.Raise (some (.Call (.Name x p) [.Constant (.str m) j p2] [] p3)) none pos) (evRaise x) := by
  obtain ⟨C, bmB, B, nw, it, h1, h2, h3, h4, h5, h6⟩ := E.ex
  exact dq_raise hc on.takes h1 h2 h3 h4 (raises_own h5 h6) hg hdb
theorem kn_of {P : Program} {w : World} {K : PySem.W.Frag} {mg : Str → Option Value} {base : Heap} {x : Str} {st : Stmt} {f : Addr} {fd : FuncData} {cdv : Value} {N ps : List Str} {k n : Nat} {mf : MF} {fb : MS} (D : DefAt K mg x st [] f fd cdv) (S : FnScope N ps (defScope st)) (hn : ps.length = n)
    (hz : ∀ (kV doc pm : Value) (an : Option Addr) (cdv ct : Value) (us : List Value), us.length = ps.length → bindArgs (PySem.W.fnOf x x (defArgs st) (defBody st) (defScope st) .none kV doc pm an cdv ct) ⟨us, []⟩ = pure (ps.zip us))
    (hb : ∀ (A : Around) (outer : List Env) (s : Shared) (H : Hp) (E : XK), On (cxOf (L2.CX P w) P w K mg base N x (defScope st) f cdv A outer s H E) (fun cls d _ H => E cls d H) k →
      DQs (cxOf (L2.CX P w) P w K mg base N x (defScope st) f cdv A outer s H E) g (fun cls d _ H => E cls d H) (defBody st) fb)
    (hm : ∀ ds s, ds.length = n → mf ds s ≠ .stuck → runB N.length fb ds s = mf ds s) : Kn P w K mg base g x (k + 1) n mf [] :=
  ⟨f, fd, ps, [], [], fn_dl2 D.F S hn hb hm, D.m, D.F.kp, D.F.toD.bindsN hz, .nil, fun _ => Reps.nil⟩
theorem kn_stuck {P : Program} {w : World} {K : PySem.W.Frag} {mg : Str → Option Value} {base : Heap} {x : Str} {st : Stmt} {f : Addr} {fd : FuncData} {cdv : Value} {ps : List Str} {k n : Nat} (D : DefAt K mg x st [] f fd cdv) (hn : ps.length = n)
    (hz : ∀ (kV doc pm : Value) (an : Option Addr) (cdv ct : Value) (us : List Value), us.length = ps.length → bindArgs (PySem.W.fnOf x x (defArgs st) (defBody st) (defScope st) .none kV doc pm an cdv ct) ⟨us, []⟩ = pure (ps.zip us)) : Kn P w K mg base g x k n mStuck [] :=
  ⟨f, fd, ps, [], [], fn_stuck, D.m, D.F.kp, D.F.toD.bindsN hz, .nil, fun _ => Reps.nil⟩
/-- a def with defaults, given all but the last so many -/
theorem kn_ofD {P : Program} {w : World} {K : PySem.W.Frag} {mg : Str → Option Value} {base : Heap} {x : Str} {st : Stmt} {dvs : List V} {f : Addr} {fd : FuncData} {cdv : Value} {N ps : List Str} {k n : Nat} {mf : MF} {fb : MS} (m j : Nat) (dds : List D) (D : DefAt K mg x st dvs f fd cdv) (S : FnScope N ps (defScope st)) (hn : ps.length = n)
    (hd : dvs ≠ []) (hmn : m + (dvs.length - j) = ps.length)
    (hz : ∀ (T : Addr) (kV doc pm : Value) (an : Option Addr) (cdv ct : Value) (us its : List Value), us.length = m → its.length = dvs.length →
      ∃ k, bindArgs (PySem.W.fnOf x x (defArgs st) (defBody st) (defScope st) (.ref T) kV doc pm an cdv ct) ⟨us, []⟩ = seqItems? (.ref T) >>= k ∧ k (some its.toArray) = pure (ps.zip (us ++ its.drop j)))
    (hb : ∀ (A : Around) (outer : List Env) (s : Shared) (H : Hp) (E : XK), On (cxOf (L2.CX P w) P w K mg base N x (defScope st) f cdv A outer s H E) (fun cls d _ H => E cls d H) k →
      DQs (cxOf (L2.CX P w) P w K mg base N x (defScope st) f cdv A outer s H E) g (fun cls d _ H => E cls d H) (defBody st) fb)
    (hm : ∀ ds s, ds.length = n → mf ds s ≠ .stuck → runB N.length fb ds s = mf ds s) (hr : ∀ F, Reps K mg g F dds (dvs.drop j)) : Kn P w K mg base g x (k + 1) n mf dds := by
  obtain ⟨ds, h1, h2⟩ := D.F.toD.binds1 m j hd hmn hz
  exact ⟨f, fd, ps, ds, dvs.drop j, fn_dl2 D.F S hn hb hm, D.m, D.F.kp, h2, h1, hr⟩
end
end DL

set_option Elab.async false
set_option linter.all false
set_option maxRecDepth 100000
set_option autoImplicit false
/-! DL16: the def that tells; the law's body as a whole. -/
namespace DL
open PySem PySem.Spec PyProof.Rows L2
theorem told_of {K : PySem.W.Frag} {mg : Str → Option Value} {x ec ret a : Str} {st : Stmt} {f CS : Addr} {fd : FuncData} {cdv : Value} {okc : Str → Prop} {j : Nat} {p1 p2 p3 p4 p5 p6 p7 p8 : Pos} (D : DefAt K mg x st [] f fd cdv) (hmc : mg ec = some (.ref CS))
    (hb : defBody st = [.Try [.Return (some (.Call (.Name a p1) [] [] p2)) p3] [.ExceptHandler (some (.Name ec p4)) none [.Return (some (.Constant (.str ret) j p5)) p6] p7] [] [] p8]) (Sg : FnScope [a] [a] (defScope st))
    (hz : ∀ (kV doc pm : Value) (an : Option Addr) (cdv ct : Value) (us : List Value), us.length = [a].length → bindArgs (PySem.W.fnOf x x (defArgs st) (defBody st) (defScope st) .none kV doc pm an cdv ct) ⟨us, []⟩ = pure ([a].zip us))
    (hva : Vis (defScope st) a) (hec : (defScope st).names.lookup ec = some .globalImplicit) (da : (a == ("__debug__" : Str)) = false) (dca : (a == ("__classdict__" : Str)) = false) (dec : (ec == ("__debug__" : Str)) = false) (dx : (x == ("__debug__" : Str)) = false)
    (hex : ∀ c C, okc c → mg c = some (.ref C) → PySem.W.exmOne K (.ref C) (.ref CS) = some true) : Told K mg x ec ret okc := by
  have B := D.F.toD.bindsN hz
  obtain ⟨oc, od, dV, kV, doc, pm, an, ct, osl, rfl, lk, hcd, hD⟩ := D.F.ex
  rw [hb] at lk B
  exact ⟨f, CS, oc, od, _, _, _, _, _, _, _, _, _, _, [a], a, j, p1, p2, p3, p4, p5, p6, p7, p8, D.m, D.F.kp, lk, hcd, B, Sg, rfl, hva, hec, hmc, da, dca, dec, dx, fun _ => rfl, hex⟩

section
variable {X : Cx} {W : WX} {pos : Pos} {iter : Expr} {body rest : List Stmt} {fb fr : MS} {fi : ME}
theorem pss_law {i : Nat} {x : Str} {px : Pos} {g0 : Gh} {gq : Addr → Gh} (hT : ∀ q, (gq q).T = g0.T) (hG : ∀ q, (gq q).GT = g0.GT) (h0 : ∀ q, (gq q).a0 = some q) (hp : PassesOwn (model X.prog X.w) X.A X.env X.xe) (hc : X.calm = true) (hN : X.N.Nodup)
    (hi : X.N[i]? = some x) (hx : Loc X.env.scope x) (hit : DE X g0 W iter fi) (hb : ∀ q, DQs X (gq q) W body fb) (hr : ∀ q, DQs X (gq q) W rest fr) (hs : ∀ x, foldedSetIterable iter X.env x = pure x := by intro _; rfl) (hf : X.fn x = true ∨ X.env.scope.names.lookup x = some .local := by first | exact .inl rfl | exact .inr rfl | assumption) :
    PSs X (.For (.Name x px) iter body [] pos :: rest) (fun De σ H => ∃ (F0 H0 F : Hp) (z : Z) (a b c : Int) (z1 z2 z3 : Z), Now X.K X.mg g0 F0 H0 F H z σ ∧ fi z = .ok (.lst [.lst [.int a, .int b, .int c]]) z1 ∧
      fb ⟨(List.replicate z.ρ.length .un).set i (.d .dice), (a, b, c)⟩ = .ok .nx z2 ∧ fr z2 = .ok (.rt (.bl true)) z3 ∧ ∀ H', De.rt (.bl true) H') := by
  have hr' : PSs X rest (fun D σ H => ∃ q, RdQ X.K X.mg (gq q) W fr D σ H) := ⟨fun pins s σ H D I ⟨q, h⟩ => (hr q).run pins s σ H D I h⟩
  have A := pss_cons (ps_turn (pos := pos) (px := px) hT hG h0 hp hc hN hi hx hit hb hs hf) hr'
  refine ⟨fun pins s σ H De I h => A.run pins s σ H De I ?_⟩
  obtain ⟨F0, H0, F, z, a, b, c, z1, z2, z3, n, e1, e2, e3, hD⟩ := h
  refine ⟨F0, H0, F, z, a, b, c, z1, z2, n, e1, e2, fun q F1 H1 F' σ' H' n' => ⟨q, F1, H1, F', z2, n', ?_⟩⟩
  rw [e3]
  rintro F2 v H2 _ _ _ rfl
  exact hD H2
end
/-- a turn more than a name's number is great -/
def fuI (i : Nat) : Z → Nat := fun z => match z.ρ[i]? with
  | some (.d (.int k)) => k.natAbs + 1
  | _ => 0
instance : Inhabited LamI := ⟨⟨"", default, default, default, []⟩⟩
section
variable {X : Cx} {g : Gh} {W : WX} {pos : Pos} {fl : ML}
theorem dq_par2 {i j : Nat} {x y : Str} {a b : Expr} {px py pt pt2 : Pos} {kt k2 : Nat} (hc : X.calm = true) (hN : X.N.Nodup) (hi : X.N[i]? = some x) (hj : X.N[j]? = some y) (hij : i ≠ j)
    (hx : X.env.scope.names.lookup x = some .local) (hy : X.env.scope.names.lookup y = some .local) (ha : DA X g W [a, b] fl)
    (hw : swappedStores [.Tuple [.Name x px, .Name y py] kt pt] (.Tuple [a, b] k2 pt2) X.env = pure (some [x, y]))
    (hs : swapsWithSole [.Tuple [.Name x px, .Name y py] kt pt] (.Tuple [a, b] k2 pt2) pos.line X.env = pure false := by rfl) :
    DQ X g W (.Assign [.Tuple [.Name x px, .Name y py] kt pt] (.Tuple [a, b] k2 pt2) pos) (evPar i j fl) := by
  refine PS_weak (ps_par hc hN hi hj hij hx hy ha hw hs) fun D σ H ⟨F0, H0, F, z, n, h⟩ => ⟨F0, H0, F, z, n, (EL.bindS h).imp fun v H1 ⟨d, z1, F1, a1, r1, _, h1⟩ => ?_⟩
  split at h1
  · obtain ⟨v, r, rfl, h2, h3⟩ := r1
    obtain ⟨w, rfl, h4⟩ := reps1 h3
    exact ⟨v, w, rfl, h1.next ((a1.now.set i h2).set j h4)⟩
  · exact h1.elim
end
/-! ### facts from what is laid -/
theorem exm_own {K : PySem.W.Frag} {C : Addr} (a : PySem.W.subIn K (.ref C) (.type "BaseException") = some true) (b : PySem.W.isClsIn K C = true) (c : PySem.W.typeIn K (.ref C) = some (.type "type")) (d : PySem.W.subIn K (.ref C) (.ref C) = some true) : PySem.W.exmOne K (.ref C) (.ref C) = some true := by
  unfold PySem.W.exmOne
  rw [a]
  unfold PySem.W.kitCls
  unfold PySem.W.isClsIn at b
  simp [b, c, d]
theorem code_at {q : Program} {K : PySem.W.Frag} {x : Str} {c P f : Addr} {oc ec : Value} {od dc : Option Addr} {fd : FuncData} {sl slc : Array (Option Value)} {vs : Array Value} (a : PySem.W.nsIn K mainGlobals x = some (some (.ref f))) (l : K.lookup f = some ⟨oc, od, .func fd, sl⟩) (hc : fd.code = .ref c)
    (lc : K.lookup c = some ⟨ec, dc, .fields vs, slc⟩) (hv : vs[11]? = some (.ref P)) (no : K.lookup P = none) (r : ((recsOf q).find? (fun e => e.name == x)).isSome = true) : CodeAt q K x c P := by
  refine ⟨Option.isSome_iff_exists.mp r, ?_, no⟩
  unfold PySem.W.tabIn
  simp only [a, l, hc, lc, hv]
end DL

set_option Elab.async false
set_option linter.all false
set_option maxRecDepth 100000
set_option autoImplicit false
/-! DM1: what the data's operations do, plainly. -/
namespace DL
open PySem PySem.Spec PyProof.Rows L2
/-- a ratio as data -/
def Qd (r : Rat) : D := .tup [.int r.num, .int r.den]
theorem opEq_int (i j : Int) : opEq (.int i) (.int j) = some (.bl (i == j)) := by
  simp [opEq, eqD, toP, SeqAt.shaped, PyData.canLay0, PyData.depth, PyData.eqv]
theorem opNe_int (i j : Int) : opNe (.int i) (.int j) = some (.bl (!(i == j))) := by
  simp [opNe, eqD, toP, SeqAt.shaped, PyData.canLay0, PyData.depth, PyData.eqv]
theorem Q_ext {a b : Rat} : (a.num == b.num && (a.den : Int) == (b.den : Int)) = decide (a = b) := by
  by_cases h : a = b
  · subst h; simp
  · rw [decide_eq_false h]
    rw [Bool.eq_false_iff]
    intro w
    simp at w
    exact h (Rat.ext w.1 (by exact_mod_cast w.2))
theorem eqD_Q (a b : Rat) : eqD (Qd a) (Qd b) = some (decide (a = b)) := by
  rw [← Q_ext]
  simp [Qd, eqD, toP, toPs, SeqAt.shaped, PyData.canLay0, PyData.canLayAll0, PyData.depth, PyData.depthAll, PyData.eqv, PyData.eqvAll]
theorem opNe_Q (a b : Rat) : opNe (Qd a) (Qd b) = some (.bl (!decide (a = b))) := by simp [opNe, eqD_Q]
theorem opEq_Q (a b : Rat) : opEq (Qd a) (Qd b) = some (.bl (decide (a = b))) := by simp [opEq, eqD_Q]
theorem opNe_Q1 (a : Rat) (t : Int) (b : Nat) (h : a = Rat.divInt t b) (e : a.num = t) (e2 : a.den = b) : opNe (Qd a) (.tup [.int t, .int b]) = some (.bl false) := by
  subst e; subst e2; exact (opNe_Q a a).trans (by simp)
/-! ### the loop that finds what divides both -/
def gcdT : MT := tB1 (ev2 opNe (evVar 3) (evC (.int 0)))
def gcdB : MS := evPar 2 3 (evCons (evVar 3) (evCons (ev2 opMod (evVar 2) (evVar 3)) (evNil)))
theorem gcd_turn (x0 x1 : SV) (a b : Nat) (s : S) (h : b ≠ 0) : gcdB ⟨[x0, x1, .d (.int a), .d (.int b)], s⟩ = .ok .nx ⟨[x0, x1, .d (.int b), .d (.int (a % b : Nat))], s⟩ := by
  have hb : 0 < b := Nat.pos_of_ne_zero h
  simp [gcdB, evPar, evCons, evNil, evVar, ev2, opMod, hb, lift]
theorem gcd_loop (x0 x1 : SV) (s : S) : ∀ (n a b : Nat), b < n → whL gcdT gcdB n ⟨[x0, x1, .d (.int a), .d (.int b)], s⟩ = .ok .nx ⟨[x0, x1, .d (.int (Nat.gcd a b : Nat)), .d (.int 0)], s⟩
  | 0, _, _, h => absurd h (Nat.not_lt_zero _)
  | n + 1, a, b, h => by
    unfold whL
    by_cases hb : b = 0
    · subst hb
      simp [gcdT, tB1, ev2, evVar, evC, opNe_int, lift]
    · have hm : a % b < n := Nat.lt_of_lt_of_le (Nat.mod_lt _ (by omega)) (by omega)
      have hb' : (b : Int) ≠ 0 := by omega
      simp only [gcdT, tB1, ev2, evVar, evC]
      simp [opNe_int, lift, hb', gcd_turn _ _ _ _ _ hb]
      have := gcd_loop x0 x1 s n b (a % b) hm
      rw [show ((a : Int) % (b : Int)) = ((a % b : Nat) : Int) by simp]
      simp only [gcdT, tB1, ev2, evVar, evC] at this
      rw [this, Nat.gcd_comm a b, Nat.gcd_rec b a, Nat.gcd_comm, if_neg hb]

/-! ### sizes -/
/-- top and bottom below 2 ^ n -/
def Bd (n : Nat) (r : Rat) : Prop := r.num.natAbs < 2 ^ n ∧ r.den < 2 ^ n
theorem Bd.mono {m n : Nat} {r : Rat} (h : Bd m r) (e : m ≤ n) : Bd n r := by
  have := Nat.pow_le_pow_right (n := 2) (by decide) e
  exact ⟨Nat.lt_of_lt_of_le h.1 this, Nat.lt_of_lt_of_le h.2 this⟩
theorem gcd_dvd_int (t b : Int) : ((b.gcd t : Nat) : Int) ∣ t ∧ ((b.gcd t : Nat) : Int) ∣ b := ⟨Int.gcd_dvd_right .., Int.gcd_dvd_left ..⟩
theorem Bd.divInt {n : Nat} {t b : Int} (ht : t.natAbs < 2 ^ n) (hb : b.natAbs < 2 ^ n) (h0 : b ≠ 0) : Bd n (Rat.divInt t b) := by
  have hg : 0 < b.gcd t := Int.gcd_pos_of_ne_zero_left _ h0
  constructor
  · rw [Rat.num_divInt]
    refine Nat.lt_of_le_of_lt ?_ ht
    have h1 := Int.natAbs_ediv_le_natAbs (b.sign * t) (b.gcd t : Nat)
    refine Nat.le_trans h1 ?_
    rw [Int.natAbs_mul, Int.natAbs_sign_of_ne_zero h0, Nat.one_mul]
    exact Nat.le_refl _
  · rw [Rat.den_divInt, if_neg h0]
    exact Nat.lt_of_le_of_lt (Nat.div_le_self _ _) hb
theorem sign_pos {b t : Int} (hb : 0 < b) : (Rat.divInt t b).num = t / (b.gcd t : Nat) ∧ ((Rat.divInt t b).den : Int) = b / (b.gcd t : Nat) := by
  have e : b.sign = 1 := Int.sign_eq_one_of_pos hb
  rw [Rat.num_divInt, Rat.den_divInt, if_neg (by omega), e, Int.one_mul]
  refine ⟨rfl, ?_⟩
  rw [Int.natCast_ediv]
  congr 1
  omega
theorem sign_neg {b t : Int} (hb : b < 0) : (Rat.divInt t b).num = -(t / (b.gcd t : Nat)) ∧ ((Rat.divInt t b).den : Int) = -(b / (b.gcd t : Nat)) := by
  have e : b.sign = -1 := Int.sign_eq_neg_one_of_neg hb
  have hg := gcd_dvd_int t b
  rw [Rat.num_divInt, Rat.den_divInt, if_neg (by omega), e, Int.neg_one_mul]
  refine ⟨Int.neg_ediv_of_dvd hg.1, ?_⟩
  rw [Int.natCast_ediv, ← Int.neg_ediv_of_dvd hg.2]
  congr 1
  omega
theorem abs_eq (i : Int) : (if i < 0 then -i else i) = (i.natAbs : Nat) := by split <;> omega

theorem pow_lt {m n : Nat} (h : m ≤ n) : (2 : Nat) ^ m ≤ 2 ^ n := Nat.pow_le_pow_right (by decide) h
theorem Bd.smn {n : Nat} {r : Rat} (h : Bd n r) (e : n ≤ 8000) : Sm r.num := Nat.lt_of_lt_of_le h.1 (pow_lt e)
theorem Bd.smd {n : Nat} {r : Rat} (h : Bd n r) (e : n ≤ 8000) : Sm (r.den : Int) := by
  unfold Sm
  rw [Int.natAbs_natCast]
  exact Nat.lt_of_lt_of_le h.2 (pow_lt e)
theorem mul_lt_pow {m n a b : Nat} (ha : a < 2 ^ m) (hb : b < 2 ^ n) : a * b < 2 ^ (m + n) := by
  rw [Nat.pow_add]
  rcases Nat.eq_zero_or_pos b with h | h
  · subst h; rw [Nat.mul_zero]; exact Nat.mul_pos (Nat.pow_pos (by decide)) (Nat.pow_pos (by decide))
  · exact Nat.lt_of_lt_of_le (Nat.mul_lt_mul_of_pos_right ha h) (Nat.mul_le_mul_left _ (Nat.le_of_lt hb))
theorem Bd.tops {m n : Nat} {a b : Rat} (ha : Bd m a) (hb : Bd n b) : (a.num * b.den + b.num * a.den).natAbs < 2 ^ (m + n + 1) := by
  have h1 := mul_lt_pow ha.1 hb.2
  have h2 := mul_lt_pow hb.1 ha.2
  rw [Nat.add_comm n m] at h2
  have h3 : (a.num * b.den + b.num * a.den).natAbs ≤ a.num.natAbs * b.den + b.num.natAbs * a.den := by
    refine Nat.le_trans (Int.natAbs_add_le _ _) ?_
    rw [Int.natAbs_mul, Int.natAbs_mul, Int.natAbs_natCast, Int.natAbs_natCast]
    exact Nat.le_refl _
  rw [Nat.pow_succ]
  omega
theorem Bd.topd {m n : Nat} {a b : Rat} (ha : Bd m a) (hb : Bd n b) : (a.num * b.den - b.num * a.den).natAbs < 2 ^ (m + n + 1) := by
  have h1 := mul_lt_pow ha.1 hb.2
  have h2 := mul_lt_pow hb.1 ha.2
  rw [Nat.add_comm n m] at h2
  have h3 : (a.num * b.den - b.num * a.den).natAbs ≤ a.num.natAbs * b.den + b.num.natAbs * a.den := by
    refine Nat.le_trans (Int.natAbs_sub_le _ _) ?_
    rw [Int.natAbs_mul, Int.natAbs_mul, Int.natAbs_natCast, Int.natAbs_natCast]
    exact Nat.le_refl _
  rw [Nat.pow_succ]
  omega
theorem Bd.bot {m n : Nat} {a b : Rat} (ha : Bd m a) (hb : Bd n b) : ((a.den : Int) * b.den).natAbs < 2 ^ (m + n) := by
  rw [Int.natAbs_mul]
  exact mul_lt_pow ha.2 hb.2
theorem Bd.top {m n : Nat} {a b : Rat} (ha : Bd m a) (hb : Bd n b) : (a.num * b.num).natAbs < 2 ^ (m + n) := by
  rw [Int.natAbs_mul]
  exact mul_lt_pow ha.1 hb.1
theorem den_ne (a b : Rat) : (a.den : Int) * b.den ≠ 0 := by
  have h1 := a.den_nz
  have h2 := b.den_nz
  exact Int.mul_ne_zero (by omega) (by omega)
theorem add_divInt (a b : Rat) : a + b = Rat.divInt (a.num * b.den + b.num * a.den) ((a.den : Int) * b.den) := by
  rw [Rat.add_def', ← Rat.divInt_ofNat]
  simp
theorem sub_divInt (a b : Rat) : a - b = Rat.divInt (a.num * b.den - b.num * a.den) ((a.den : Int) * b.den) := by
  have h := Rat.divInt_sub_divInt a.num b.num (d₁ := a.den) (d₂ := b.den) (by have := a.den_nz; omega) (by have := b.den_nz; omega)
  rw [Rat.num_divInt_den, Rat.num_divInt_den] at h
  exact h
theorem mul_divInt (a b : Rat) : a * b = Rat.divInt (a.num * b.num) ((a.den : Int) * b.den) := by
  rw [Rat.mul_def', ← Rat.divInt_ofNat]
  simp
theorem Bd.add {m n : Nat} {a b : Rat} (ha : Bd m a) (hb : Bd n b) : Bd (m + n + 1) (a + b) := by
  rw [add_divInt]
  exact Bd.divInt (ha.tops hb) (Nat.lt_of_lt_of_le (ha.bot hb) (pow_lt (by omega))) (den_ne a b)
theorem Bd.sub {m n : Nat} {a b : Rat} (ha : Bd m a) (hb : Bd n b) : Bd (m + n + 1) (a - b) := by
  rw [sub_divInt]
  exact Bd.divInt (ha.topd hb) (Nat.lt_of_lt_of_le (ha.bot hb) (pow_lt (by omega))) (den_ne a b)
theorem Bd.mul {m n : Nat} {a b : Rat} (ha : Bd m a) (hb : Bd n b) : Bd (m + n) (a * b) := by
  rw [mul_divInt]
  exact Bd.divInt (ha.top hb) (ha.bot hb) (den_ne a b)
theorem sm_of {n : Nat} {i : Int} (h : i.natAbs < 2 ^ n) (e : n ≤ 8000) : Sm i := Nat.lt_of_lt_of_le h (pow_lt e)
theorem atQ0 (r : Rat) : ixD (Qd r) (.int 0) = some (.int r.num) := rfl
theorem atQ1 (r : Rat) : ixD (Qd r) (.int 1) = some (.int r.den) := rfl
end DL

set_option Elab.async false
set_option linter.all false
set_option maxRecDepth 100000
set_option autoImplicit false
set_option maxHeartbeats 0
namespace K01
open DL PySem PySem.Spec PyProof.Rows L2
def topS (i : Nat) : Stmt := PySem.Challenge.pw_solidstack_k01_numbers_in_least_terms.main.body.getD i (.Pass ⟨0, 0, 0, 0⟩)
abbrev s_f_number : Stmt := topS 4
abbrev s_f_plus : Stmt := topS 5
abbrev s_f_minus : Stmt := topS 6
abbrev s_f_times : Stmt := topS 7
abbrev s_f_over : Stmt := topS 8
abbrev s_f_sign_of : Stmt := topS 9
abbrev s_f_compared : Stmt := topS 10
abbrev s_f_least_of : Stmt := topS 11
abbrev s_f_greatest_of : Stmt := topS 12
abbrev s_f_total : Stmt := topS 13
abbrev s_f_shown : Stmt := topS 14
abbrev s_f_read : Stmt := topS 15
abbrev s_f_whole_below : Stmt := topS 16
abbrev s_f_three_by_three : Stmt := topS 17
abbrev s_f_law_dice : Stmt := topS 19
abbrev s_f_law_roll : Stmt := topS 20
abbrev s_f_law_rounds : Stmt := topS 21
abbrev s_f_law_told : Stmt := topS 22
abbrev s_f_law_least : Stmt := topS 23
abbrev s_f_law_plus : Stmt := topS 24
abbrev s_f_law_times : Stmt := topS 25
abbrev s_f_law_less : Stmt := topS 26
abbrev s_f_law_drawn : Stmt := topS 27
abbrev s_f_law_read : Stmt := topS 28
abbrev s_f_law : Stmt := topS 29
theorem sc_f_number : FnScope [(PySem.Str.ofString "top"), (PySem.Str.ofString "bottom"), (PySem.Str.ofString "one"), (PySem.Str.ofString "other")] [(PySem.Str.ofString "top"), (PySem.Str.ofString "bottom")] (defScope s_f_number) := ⟨rfl, rfl, rfl, by decide +kernel, rfl, by decide +kernel, by decide +kernel⟩
theorem sc_f_plus : FnScope [(PySem.Str.ofString "one"), (PySem.Str.ofString "other")] [(PySem.Str.ofString "one"), (PySem.Str.ofString "other")] (defScope s_f_plus) := ⟨rfl, rfl, rfl, by decide +kernel, rfl, by decide +kernel, by decide +kernel⟩
theorem sc_f_minus : FnScope [(PySem.Str.ofString "one"), (PySem.Str.ofString "other")] [(PySem.Str.ofString "one"), (PySem.Str.ofString "other")] (defScope s_f_minus) := ⟨rfl, rfl, rfl, by decide +kernel, rfl, by decide +kernel, by decide +kernel⟩
theorem sc_f_times : FnScope [(PySem.Str.ofString "one"), (PySem.Str.ofString "other")] [(PySem.Str.ofString "one"), (PySem.Str.ofString "other")] (defScope s_f_times) := ⟨rfl, rfl, rfl, by decide +kernel, rfl, by decide +kernel, by decide +kernel⟩
theorem sc_f_over : FnScope [(PySem.Str.ofString "one"), (PySem.Str.ofString "other")] [(PySem.Str.ofString "one"), (PySem.Str.ofString "other")] (defScope s_f_over) := ⟨rfl, rfl, rfl, by decide +kernel, rfl, by decide +kernel, by decide +kernel⟩
theorem sc_f_sign_of : FnScope [(PySem.Str.ofString "one")] [(PySem.Str.ofString "one")] (defScope s_f_sign_of) := ⟨rfl, rfl, rfl, by decide +kernel, rfl, by decide +kernel, by decide +kernel⟩
theorem sc_f_compared : FnScope [(PySem.Str.ofString "one"), (PySem.Str.ofString "other")] [(PySem.Str.ofString "one"), (PySem.Str.ofString "other")] (defScope s_f_compared) := ⟨rfl, rfl, rfl, by decide +kernel, rfl, by decide +kernel, by decide +kernel⟩
theorem sc_f_least_of : FnScope [(PySem.Str.ofString "rows"), (PySem.Str.ofString "found"), (PySem.Str.ofString "one")] [(PySem.Str.ofString "rows")] (defScope s_f_least_of) := ⟨rfl, rfl, rfl, by decide +kernel, rfl, by decide +kernel, by decide +kernel⟩
theorem sc_f_greatest_of : FnScope [(PySem.Str.ofString "rows"), (PySem.Str.ofString "found"), (PySem.Str.ofString "one")] [(PySem.Str.ofString "rows")] (defScope s_f_greatest_of) := ⟨rfl, rfl, rfl, by decide +kernel, rfl, by decide +kernel, by decide +kernel⟩
theorem sc_f_total : FnScope [(PySem.Str.ofString "rows"), (PySem.Str.ofString "found"), (PySem.Str.ofString "one")] [(PySem.Str.ofString "rows")] (defScope s_f_total) := ⟨rfl, rfl, rfl, by decide +kernel, rfl, by decide +kernel, by decide +kernel⟩
theorem sc_f_shown : FnScope [(PySem.Str.ofString "one")] [(PySem.Str.ofString "one")] (defScope s_f_shown) := ⟨rfl, rfl, rfl, by decide +kernel, rfl, by decide +kernel, by decide +kernel⟩
theorem sc_f_read : FnScope [(PySem.Str.ofString "text"), (PySem.Str.ofString "parts"), (PySem.Str.ofString "wholes"), (PySem.Str.ofString "place"), (PySem.Str.ofString "part"), (PySem.Str.ofString "body")] [(PySem.Str.ofString "text")] (defScope s_f_read) := ⟨rfl, rfl, rfl, by decide +kernel, rfl, by decide +kernel, by decide +kernel⟩
theorem sc_f_whole_below : FnScope [(PySem.Str.ofString "one")] [(PySem.Str.ofString "one")] (defScope s_f_whole_below) := ⟨rfl, rfl, rfl, by decide +kernel, rfl, by decide +kernel, by decide +kernel⟩
theorem sc_f_three_by_three : FnScope [(PySem.Str.ofString "one"), (PySem.Str.ofString "other"), (PySem.Str.ofString "third"), (PySem.Str.ofString "found")] [(PySem.Str.ofString "one"), (PySem.Str.ofString "other"), (PySem.Str.ofString "third")] (defScope s_f_three_by_three) := ⟨rfl, rfl, rfl, by decide +kernel, rfl, by decide +kernel, by decide +kernel⟩
theorem sc_f_law_dice : FnScope [(PySem.Str.ofString "cell")] [(PySem.Str.ofString "cell")] (defScope s_f_law_dice) := ⟨rfl, rfl, rfl, by decide +kernel, rfl, by decide +kernel, by decide +kernel⟩
theorem sc_f_law_roll : FnScope [(PySem.Str.ofString "dice"), (PySem.Str.ofString "many"), (PySem.Str.ofString "found")] [(PySem.Str.ofString "dice"), (PySem.Str.ofString "many")] (defScope s_f_law_roll) := ⟨rfl, rfl, rfl, by decide +kernel, rfl, by decide +kernel, by decide +kernel⟩
theorem sc_f_law_rounds : FnScope [(PySem.Str.ofString "script"), (PySem.Str.ofString "most"), (PySem.Str.ofString "cells"), (PySem.Str.ofString "cell")] [(PySem.Str.ofString "script"), (PySem.Str.ofString "most")] (defScope s_f_law_rounds) := ⟨rfl, rfl, rfl, by decide +kernel, rfl, by decide +kernel, by decide +kernel⟩
theorem sc_f_law_told : FnScope [(PySem.Str.ofString "what")] [(PySem.Str.ofString "what")] (defScope s_f_law_told) := ⟨rfl, rfl, rfl, by decide +kernel, rfl, by decide +kernel, by decide +kernel⟩
theorem sc_f_law_least : FnScope [(PySem.Str.ofString "top"), (PySem.Str.ofString "bottom"), (PySem.Str.ofString "one"), (PySem.Str.ofString "other")] [(PySem.Str.ofString "top"), (PySem.Str.ofString "bottom")] (defScope s_f_law_least) := ⟨rfl, rfl, rfl, by decide +kernel, rfl, by decide +kernel, by decide +kernel⟩
theorem sc_f_law_plus : FnScope [(PySem.Str.ofString "one"), (PySem.Str.ofString "other")] [(PySem.Str.ofString "one"), (PySem.Str.ofString "other")] (defScope s_f_law_plus) := ⟨rfl, rfl, rfl, by decide +kernel, rfl, by decide +kernel, by decide +kernel⟩
theorem sc_f_law_times : FnScope [(PySem.Str.ofString "one"), (PySem.Str.ofString "other")] [(PySem.Str.ofString "one"), (PySem.Str.ofString "other")] (defScope s_f_law_times) := ⟨rfl, rfl, rfl, by decide +kernel, rfl, by decide +kernel, by decide +kernel⟩
theorem sc_f_law_less : FnScope [(PySem.Str.ofString "one"), (PySem.Str.ofString "other")] [(PySem.Str.ofString "one"), (PySem.Str.ofString "other")] (defScope s_f_law_less) := ⟨rfl, rfl, rfl, by decide +kernel, rfl, by decide +kernel, by decide +kernel⟩
theorem sc_f_law_drawn : FnScope [(PySem.Str.ofString "dice")] [(PySem.Str.ofString "dice")] (defScope s_f_law_drawn) := ⟨rfl, rfl, rfl, by decide +kernel, rfl, by decide +kernel, by decide +kernel⟩
theorem sc_f_law_read : FnScope [(PySem.Str.ofString "text"), (PySem.Str.ofString "parts"), (PySem.Str.ofString "first"), (PySem.Str.ofString "figures"), (PySem.Str.ofString "top"), (PySem.Str.ofString "bottom"), (PySem.Str.ofString "one"), (PySem.Str.ofString "sign")] [(PySem.Str.ofString "text")] (defScope s_f_law_read) := ⟨rfl, rfl, rfl, by decide +kernel, rfl, by decide +kernel, by decide +kernel⟩
theorem sc_f_law : FnScope [(PySem.Str.ofString "script"), (PySem.Str.ofString "dice"), (PySem.Str.ofString "top"), (PySem.Str.ofString "bottom"), (PySem.Str.ofString "due"), (PySem.Str.ofString "far"), (PySem.Str.ofString "whole"), (PySem.Str.ofString "part"), (PySem.Str.ofString "low"), (PySem.Str.ofString "high"), (PySem.Str.ofString "text"), (PySem.Str.ofString "rows"), (PySem.Str.ofString "a"), (PySem.Str.ofString "b"), (PySem.Str.ofString "c"), (PySem.Str.ofString "sign"), (PySem.Str.ofString "bad"), (PySem.Str.ofString "drawn"), (PySem.Str.ofString "one"), (PySem.Str.ofString "other"), (PySem.Str.ofString "some"), (PySem.Str.ofString "k"), (PySem.Str.ofString "more"), (PySem.Str.ofString "j"), (PySem.Str.ofString "f")] [(PySem.Str.ofString "script")] (defScope s_f_law) := ⟨rfl, rfl, rfl, by decide +kernel, rfl, by decide +kernel, by decide +kernel⟩
def bst (k : Nat) : Stmt := match (defBody s_f_law)[0]? with
  | some (PySem.Stmt.For _ _ b _ _) => b.getD k (.Pass ⟨0, 0, 0, 0⟩)
  | _ => .Pass ⟨0, 0, 0, 0⟩
def lawIter : Expr := match (defBody s_f_law)[0]? with
  | some (PySem.Stmt.For _ i _ _ _) => i
  | _ => .Tuple [] 0 ⟨0, 0, 0, 0⟩
def rst (k : Nat) : Stmt := (defBody s_f_law).getD (k + 1) (.Pass ⟨0, 0, 0, 0⟩)
def kept_law : List Expr := match rst 0 with
  | PySem.Stmt.Assign _ (PySem.Expr.List es _) _ => es
  | _ => []
def lamBody (k : Nat) : Expr := match kept_law[k]? with
  | some (PySem.Expr.Lambda _ b _ _) => b
  | _ => .Tuple [] 0 ⟨0, 0, 0, 0⟩
def lamScope (k : Nat) : Scope := match kept_law[k]? with
  | some (PySem.Expr.Lambda _ _ s _) => s
  | _ => default
def lamOf (q : Str) (cells : List (Str × Addr)) : Expr → LamI
  | .Lambda a b s _ => ⟨q, a, b, s, cloFrom cells s.names []⟩
  | _ => default
/-- where the defs with tables stand: code objects, tables -/
structure Cs where
  c_f_read : Addr
  p_f_read : Addr
  c_f_law : Addr
  p_f_law : Addr
def gOf (cs : Cs) (a0 : Option Addr) (lams : List LamI) : Gh := ⟨[(cs.p_f_law, "law.<locals>.<lambda>")], [cs.p_f_read], a0, lams⟩
structure Facts (K : PySem.W.Frag) (mg : Str → Option Value) (cs : Cs) : Prop where
  b_abs : mg (PySem.Str.ofString "abs") = none
  b_any : mg (PySem.Str.ofString "any") = none
  b_enumerate : mg (PySem.Str.ofString "enumerate") = none
  b_int : mg (PySem.Str.ofString "int") = none
  b_len : mg (PySem.Str.ofString "len") = none
  b_range : mg (PySem.Str.ofString "range") = none
  b_str : mg (PySem.Str.ofString "str") = none
  e_NumberError : ErrAt K mg (PySem.Str.ofString "NumberError")
  d_f_number : ∃ f fd cdv, DefAt K mg (PySem.Str.ofString "number") s_f_number [.int 1] f fd cdv
  d_f_plus : ∃ f fd cdv, DefAt K mg (PySem.Str.ofString "plus") s_f_plus [] f fd cdv
  d_f_minus : ∃ f fd cdv, DefAt K mg (PySem.Str.ofString "minus") s_f_minus [] f fd cdv
  d_f_times : ∃ f fd cdv, DefAt K mg (PySem.Str.ofString "times") s_f_times [] f fd cdv
  d_f_over : ∃ f fd cdv, DefAt K mg (PySem.Str.ofString "over") s_f_over [] f fd cdv
  d_f_sign_of : ∃ f fd cdv, DefAt K mg (PySem.Str.ofString "sign_of") s_f_sign_of [] f fd cdv
  d_f_compared : ∃ f fd cdv, DefAt K mg (PySem.Str.ofString "compared") s_f_compared [] f fd cdv
  d_f_least_of : ∃ f fd cdv, DefAt K mg (PySem.Str.ofString "least_of") s_f_least_of [] f fd cdv
  d_f_greatest_of : ∃ f fd cdv, DefAt K mg (PySem.Str.ofString "greatest_of") s_f_greatest_of [] f fd cdv
  d_f_total : ∃ f fd cdv, DefAt K mg (PySem.Str.ofString "total") s_f_total [] f fd cdv
  d_f_shown : ∃ f fd cdv, DefAt K mg (PySem.Str.ofString "shown") s_f_shown [] f fd cdv
  d_f_read : ∃ f fd, DefAt K mg (PySem.Str.ofString "read") s_f_read [] f fd (.ref cs.c_f_read)
  d_f_whole_below : ∃ f fd cdv, DefAt K mg (PySem.Str.ofString "whole_below") s_f_whole_below [] f fd cdv
  d_f_three_by_three : ∃ f fd cdv, DefAt K mg (PySem.Str.ofString "three_by_three") s_f_three_by_three [] f fd cdv
  d_f_law_dice : ∃ f fd cdv, DefAt K mg (PySem.Str.ofString "_law_dice") s_f_law_dice [] f fd cdv
  d_f_law_roll : ∃ f fd cdv, DefAt K mg (PySem.Str.ofString "_law_roll") s_f_law_roll [] f fd cdv
  d_f_law_rounds : ∃ f fd cdv, DefAt K mg (PySem.Str.ofString "_law_rounds") s_f_law_rounds [] f fd cdv
  d_f_law_told : ∃ f fd cdv, DefAt K mg (PySem.Str.ofString "_law_told") s_f_law_told [] f fd cdv
  d_f_law_least : ∃ f fd cdv, DefAt K mg (PySem.Str.ofString "_law_least") s_f_law_least [] f fd cdv
  d_f_law_plus : ∃ f fd cdv, DefAt K mg (PySem.Str.ofString "_law_plus") s_f_law_plus [] f fd cdv
  d_f_law_times : ∃ f fd cdv, DefAt K mg (PySem.Str.ofString "_law_times") s_f_law_times [] f fd cdv
  d_f_law_less : ∃ f fd cdv, DefAt K mg (PySem.Str.ofString "_law_less") s_f_law_less [] f fd cdv
  d_f_law_drawn : ∃ f fd cdv, DefAt K mg (PySem.Str.ofString "_law_drawn") s_f_law_drawn [] f fd cdv
  d_f_law_read : ∃ f fd cdv, DefAt K mg (PySem.Str.ofString "_law_read") s_f_law_read [] f fd cdv
  d_f_law : ∃ f fd, DefAt K mg (PySem.Str.ofString "law") s_f_law [] f fd (.ref cs.c_f_law)
  told : ∃ CS, mg (PySem.Str.ofString "NumberError") = some (.ref CS) ∧ PySem.W.exmOne K (.ref CS) (.ref CS) = some true
  ap_f_law_f_read : cs.p_f_law ≠ cs.p_f_read
structure Bas (base : Heap) (mg : Str → Option Value) (cs : Cs) : Prop where
  f_read : GxR.TabB base mg cs.c_f_read cs.p_f_read
  f_law : LamX.TabB base mg cs.c_f_law cs.p_f_law
theorem gtok_f_read {K : PySem.W.Frag} {mg : Str → Option Value} {cs : Cs} {a0 : Option Addr} {lams : List LamI} (T : Facts K mg cs) : GtOk (gOf cs a0 lams) cs.p_f_read := ⟨.head _, fun p hp => by rcases List.mem_singleton.mp hp with rfl; exact T.ap_f_law_f_read⟩
theorem ltok_f_law {K : PySem.W.Frag} {mg : Str → Option Value} {cs : Cs} {a0 : Option Addr} {lams : List LamI} (T : Facts K mg cs) : LtOk (gOf cs a0 lams) cs.p_f_law "law.<locals>.<lambda>" := ⟨.head _, fun p hp _ => by rcases List.mem_singleton.mp hp with rfl; rfl, fun w => T.ap_f_law_f_read (List.mem_singleton.mp w)⟩
def okErr (c : Str) : Bool := c == (PySem.Str.ofString "NumberError")
theorem told_k {K : PySem.W.Frag} {mg : Str → Option Value} {cs : Cs} (T : Facts K mg cs) : Told K mg (PySem.Str.ofString "_law_told") (PySem.Str.ofString "NumberError") (PySem.Str.ofString "NumberError") (fun c => okErr c = true) := by
  obtain ⟨CS, h1, h2⟩ := T.told
  obtain ⟨f, fd, cdv, D0⟩ := T.d_f_law_told
  refine told_of (a := (PySem.Str.ofString "what")) D0 h1 rfl sc_f_law_told (fun _ _ _ _ _ _ us hl => match us, hl with | [_], _ => rfl) (.inl rfl) rfl (by decide) (by decide) (by decide) (by decide) fun c C hc hC => ?_
  have e : c = (PySem.Str.ofString "NumberError") := eq_of_beq hc
  rw [e, h1] at hC
  cases hC
  exact h2
/-! ### number -/
def m_f_number : MS := evThen (evIfS (tB1 (ev2 opEq (evVar 1) (evC (.int 0)))) (evRaise (PySem.Str.ofString "NumberError")) (evSkip)) (evThen (evPar 2 3 (evCons (evB bAbs (evCons (evVar 0) (evNil))) (evCons (evB bAbs (evCons (evVar 1) (evNil))) (evNil)))) (evThen (evWhile (fuI 3) (tB1 (ev2 opNe (evVar 3) (evC (.int 0)))) (evPar 2 3 (evCons (evVar 3) (evCons (ev2 opMod (evVar 2) (evVar 3)) (evNil))))) (evRet (evIf (tB1 (ev2 opGt (evVar 1) (evC (.int 0)))) (evTup (evCons (ev2 opDiv (evVar 0) (evVar 2)) (evCons (ev2 opDiv (evVar 1) (evVar 2)) (evNil)))) (evTup (evCons (ev2 opSub (evC (.int 0)) (ev2 opDiv (evVar 0) (evVar 2))) (evCons (ev2 opSub (evC (.int 0)) (ev2 opDiv (evVar 1) (evVar 2))) (evNil))))))))
def f_number : MF := runB 4 m_f_number
theorem kn_f_number_1 {P : Program} {w : World} {K : PySem.W.Frag} {mg : Str → Option Value} {base : Heap} {cs : Cs} {a0 : Option Addr} {lams : List LamI} (T : Facts K mg cs) (B : Bas base mg cs) : Kn P w K mg base (gOf cs a0 lams) (PySem.Str.ofString "number") 1 2 f_number [.int 1] := by
  obtain ⟨f, fd, cdv, D⟩ := T.d_f_number
  refine kn_ofD (N := [(PySem.Str.ofString "top"), (PySem.Str.ofString "bottom"), (PySem.Str.ofString "one"), (PySem.Str.ofString "other")]) (ps := [(PySem.Str.ofString "top"), (PySem.Str.ofString "bottom")]) (k := 0) (fb := m_f_number) 1 0 [.int 1] D sc_f_number rfl (by decide) rfl (fun _ _ _ _ _ _ _ us its hl h2 => match us, hl, its, h2 with | [_], _, [_], _ => ⟨_, rfl, rfl⟩) (fun A outer s H E on => ?_) (fun _ _ _ _ => rfl) (fun _ => Reps.cons rfl (Reps.nil))
  exact dqs_cons (dq_if (dt_cmp (od_eq on.un) (de_var (i := 1) rfl (.inl rfl)) (de_int) rfl) (dqs_one (dq_raise2 T.e_NumberError on rfl)) (dqs_nil)) (dqs_cons (dq_par2 (i := 2) (j := 3) rfl sc_f_number.nd rfl rfl (by decide) rfl rfl (da_cons (de_blt cd_abs rfl T.b_abs rfl (da_cons (de_var (i := 0) rfl (.inl rfl)) (da_nil))) (da_cons (de_blt cd_abs rfl T.b_abs rfl (da_cons (de_var (i := 1) rfl (.inl rfl)) (da_nil))) (da_nil))) rfl) (dqs_cons (dq_while (fuI 3) on.passes (dt_cmp (od_ne on.un) (de_var (i := 3) rfl (.inl rfl)) (de_int) rfl) (dqs_one (dq_par2 (i := 2) (j := 3) rfl sc_f_number.nd rfl rfl (by decide) rfl rfl (da_cons (de_var (i := 3) rfl (.inl rfl)) (da_cons (de_bin od_mod (de_var (i := 2) rfl (.inl rfl)) (de_var (i := 3) rfl (.inl rfl))) (da_nil))) rfl))) (dqs_one (dq_ret (de_if (dt_cmp od_gt (de_var (i := 1) rfl (.inl rfl)) (de_int) rfl) (de_tup (da_cons (de_bin od_div (de_var (i := 0) rfl (.inl rfl)) (de_var (i := 2) rfl (.inl rfl))) (da_cons (de_bin od_div (de_var (i := 1) rfl (.inl rfl)) (de_var (i := 2) rfl (.inl rfl))) (da_nil)))) (de_tup (da_cons (de_bin od_sub (de_int) (de_bin od_div (de_var (i := 0) rfl (.inl rfl)) (de_var (i := 2) rfl (.inl rfl)))) (da_cons (de_bin od_sub (de_int) (de_bin od_div (de_var (i := 1) rfl (.inl rfl)) (de_var (i := 2) rfl (.inl rfl)))) (da_nil)))))))))
theorem kn_f_number_2 {P : Program} {w : World} {K : PySem.W.Frag} {mg : Str → Option Value} {base : Heap} {cs : Cs} {a0 : Option Addr} {lams : List LamI} (T : Facts K mg cs) (B : Bas base mg cs) : Kn P w K mg base (gOf cs a0 lams) (PySem.Str.ofString "number") 1 2 f_number [] := by
  obtain ⟨f, fd, cdv, D⟩ := T.d_f_number
  refine kn_ofD (N := [(PySem.Str.ofString "top"), (PySem.Str.ofString "bottom"), (PySem.Str.ofString "one"), (PySem.Str.ofString "other")]) (ps := [(PySem.Str.ofString "top"), (PySem.Str.ofString "bottom")]) (k := 0) (fb := m_f_number) 2 1 [] D sc_f_number rfl (by decide) rfl (fun _ _ _ _ _ _ _ us its hl h2 => match us, hl, its, h2 with | [_, _], _, [_], _ => ⟨_, rfl, rfl⟩) (fun A outer s H E on => ?_) (fun _ _ _ _ => rfl) (fun _ => Reps.nil)
  exact dqs_cons (dq_if (dt_cmp (od_eq on.un) (de_var (i := 1) rfl (.inl rfl)) (de_int) rfl) (dqs_one (dq_raise2 T.e_NumberError on rfl)) (dqs_nil)) (dqs_cons (dq_par2 (i := 2) (j := 3) rfl sc_f_number.nd rfl rfl (by decide) rfl rfl (da_cons (de_blt cd_abs rfl T.b_abs rfl (da_cons (de_var (i := 0) rfl (.inl rfl)) (da_nil))) (da_cons (de_blt cd_abs rfl T.b_abs rfl (da_cons (de_var (i := 1) rfl (.inl rfl)) (da_nil))) (da_nil))) rfl) (dqs_cons (dq_while (fuI 3) on.passes (dt_cmp (od_ne on.un) (de_var (i := 3) rfl (.inl rfl)) (de_int) rfl) (dqs_one (dq_par2 (i := 2) (j := 3) rfl sc_f_number.nd rfl rfl (by decide) rfl rfl (da_cons (de_var (i := 3) rfl (.inl rfl)) (da_cons (de_bin od_mod (de_var (i := 2) rfl (.inl rfl)) (de_var (i := 3) rfl (.inl rfl))) (da_nil))) rfl))) (dqs_one (dq_ret (de_if (dt_cmp od_gt (de_var (i := 1) rfl (.inl rfl)) (de_int) rfl) (de_tup (da_cons (de_bin od_div (de_var (i := 0) rfl (.inl rfl)) (de_var (i := 2) rfl (.inl rfl))) (da_cons (de_bin od_div (de_var (i := 1) rfl (.inl rfl)) (de_var (i := 2) rfl (.inl rfl))) (da_nil)))) (de_tup (da_cons (de_bin od_sub (de_int) (de_bin od_div (de_var (i := 0) rfl (.inl rfl)) (de_var (i := 2) rfl (.inl rfl)))) (da_cons (de_bin od_sub (de_int) (de_bin od_div (de_var (i := 1) rfl (.inl rfl)) (de_var (i := 2) rfl (.inl rfl)))) (da_nil)))))))))
/-! ### plus -/
def m_f_plus : MS := evRet (evCall 2 f_number [] (evCons (ev2 opAdd (ev2 opMul (ev2 ixD (evVar 0) (evC (.int 0))) (ev2 ixD (evVar 1) (evC (.int 1)))) (ev2 opMul (ev2 ixD (evVar 1) (evC (.int 0))) (ev2 ixD (evVar 0) (evC (.int 1))))) (evCons (ev2 opMul (ev2 ixD (evVar 0) (evC (.int 1))) (ev2 ixD (evVar 1) (evC (.int 1)))) (evNil))))
def f_plus : MF := runB 2 m_f_plus
theorem kn_f_plus {P : Program} {w : World} {K : PySem.W.Frag} {mg : Str → Option Value} {base : Heap} {cs : Cs} {a0 : Option Addr} {lams : List LamI} (T : Facts K mg cs) (B : Bas base mg cs) : Kn P w K mg base (gOf cs a0 lams) (PySem.Str.ofString "plus") 2 2 f_plus [] := by
  obtain ⟨f, fd, cdv, D⟩ := T.d_f_plus
  refine kn_of (N := [(PySem.Str.ofString "one"), (PySem.Str.ofString "other")]) (ps := [(PySem.Str.ofString "one"), (PySem.Str.ofString "other")]) (k := 1) (fb := m_f_plus) D sc_f_plus rfl (fun _ _ _ _ _ _ us hl => match us, hl with | [_, _], _ => rfl) (fun A outer s H E on => ?_) fun _ _ _ _ => rfl
  exact dqs_one (dq_ret (de_kn (kn_f_number_2 T B) on (by decide) (da_cons (de_bin od_add (de_bin od_mul (de_ix (de_var (i := 0) rfl (.inl rfl)) (de_int)) (de_ix (de_var (i := 1) rfl (.inl rfl)) (de_int))) (de_bin od_mul (de_ix (de_var (i := 1) rfl (.inl rfl)) (de_int)) (de_ix (de_var (i := 0) rfl (.inl rfl)) (de_int)))) (da_cons (de_bin od_mul (de_ix (de_var (i := 0) rfl (.inl rfl)) (de_int)) (de_ix (de_var (i := 1) rfl (.inl rfl)) (de_int))) (da_nil)))))
/-! ### minus -/
def m_f_minus : MS := evRet (evCall 2 f_number [] (evCons (ev2 opSub (ev2 opMul (ev2 ixD (evVar 0) (evC (.int 0))) (ev2 ixD (evVar 1) (evC (.int 1)))) (ev2 opMul (ev2 ixD (evVar 1) (evC (.int 0))) (ev2 ixD (evVar 0) (evC (.int 1))))) (evCons (ev2 opMul (ev2 ixD (evVar 0) (evC (.int 1))) (ev2 ixD (evVar 1) (evC (.int 1)))) (evNil))))
def f_minus : MF := runB 2 m_f_minus
theorem kn_f_minus {P : Program} {w : World} {K : PySem.W.Frag} {mg : Str → Option Value} {base : Heap} {cs : Cs} {a0 : Option Addr} {lams : List LamI} (T : Facts K mg cs) (B : Bas base mg cs) : Kn P w K mg base (gOf cs a0 lams) (PySem.Str.ofString "minus") 2 2 f_minus [] := by
  obtain ⟨f, fd, cdv, D⟩ := T.d_f_minus
  refine kn_of (N := [(PySem.Str.ofString "one"), (PySem.Str.ofString "other")]) (ps := [(PySem.Str.ofString "one"), (PySem.Str.ofString "other")]) (k := 1) (fb := m_f_minus) D sc_f_minus rfl (fun _ _ _ _ _ _ us hl => match us, hl with | [_, _], _ => rfl) (fun A outer s H E on => ?_) fun _ _ _ _ => rfl
  exact dqs_one (dq_ret (de_kn (kn_f_number_2 T B) on (by decide) (da_cons (de_bin od_sub (de_bin od_mul (de_ix (de_var (i := 0) rfl (.inl rfl)) (de_int)) (de_ix (de_var (i := 1) rfl (.inl rfl)) (de_int))) (de_bin od_mul (de_ix (de_var (i := 1) rfl (.inl rfl)) (de_int)) (de_ix (de_var (i := 0) rfl (.inl rfl)) (de_int)))) (da_cons (de_bin od_mul (de_ix (de_var (i := 0) rfl (.inl rfl)) (de_int)) (de_ix (de_var (i := 1) rfl (.inl rfl)) (de_int))) (da_nil)))))
/-! ### times -/
def m_f_times : MS := evRet (evCall 2 f_number [] (evCons (ev2 opMul (ev2 ixD (evVar 0) (evC (.int 0))) (ev2 ixD (evVar 1) (evC (.int 0)))) (evCons (ev2 opMul (ev2 ixD (evVar 0) (evC (.int 1))) (ev2 ixD (evVar 1) (evC (.int 1)))) (evNil))))
def f_times : MF := runB 2 m_f_times
theorem kn_f_times {P : Program} {w : World} {K : PySem.W.Frag} {mg : Str → Option Value} {base : Heap} {cs : Cs} {a0 : Option Addr} {lams : List LamI} (T : Facts K mg cs) (B : Bas base mg cs) : Kn P w K mg base (gOf cs a0 lams) (PySem.Str.ofString "times") 2 2 f_times [] := by
  obtain ⟨f, fd, cdv, D⟩ := T.d_f_times
  refine kn_of (N := [(PySem.Str.ofString "one"), (PySem.Str.ofString "other")]) (ps := [(PySem.Str.ofString "one"), (PySem.Str.ofString "other")]) (k := 1) (fb := m_f_times) D sc_f_times rfl (fun _ _ _ _ _ _ us hl => match us, hl with | [_, _], _ => rfl) (fun A outer s H E on => ?_) fun _ _ _ _ => rfl
  exact dqs_one (dq_ret (de_kn (kn_f_number_2 T B) on (by decide) (da_cons (de_bin od_mul (de_ix (de_var (i := 0) rfl (.inl rfl)) (de_int)) (de_ix (de_var (i := 1) rfl (.inl rfl)) (de_int))) (da_cons (de_bin od_mul (de_ix (de_var (i := 0) rfl (.inl rfl)) (de_int)) (de_ix (de_var (i := 1) rfl (.inl rfl)) (de_int))) (da_nil)))))
/-! ### over -/
def m_f_over : MS := evRet (evCall 2 f_number [] (evCons (ev2 opMul (ev2 ixD (evVar 0) (evC (.int 0))) (ev2 ixD (evVar 1) (evC (.int 1)))) (evCons (ev2 opMul (ev2 ixD (evVar 0) (evC (.int 1))) (ev2 ixD (evVar 1) (evC (.int 0)))) (evNil))))
def f_over : MF := runB 2 m_f_over
theorem kn_f_over {P : Program} {w : World} {K : PySem.W.Frag} {mg : Str → Option Value} {base : Heap} {cs : Cs} {a0 : Option Addr} {lams : List LamI} (T : Facts K mg cs) (B : Bas base mg cs) : Kn P w K mg base (gOf cs a0 lams) (PySem.Str.ofString "over") 2 2 f_over [] := by
  obtain ⟨f, fd, cdv, D⟩ := T.d_f_over
  refine kn_of (N := [(PySem.Str.ofString "one"), (PySem.Str.ofString "other")]) (ps := [(PySem.Str.ofString "one"), (PySem.Str.ofString "other")]) (k := 1) (fb := m_f_over) D sc_f_over rfl (fun _ _ _ _ _ _ us hl => match us, hl with | [_, _], _ => rfl) (fun A outer s H E on => ?_) fun _ _ _ _ => rfl
  exact dqs_one (dq_ret (de_kn (kn_f_number_2 T B) on (by decide) (da_cons (de_bin od_mul (de_ix (de_var (i := 0) rfl (.inl rfl)) (de_int)) (de_ix (de_var (i := 1) rfl (.inl rfl)) (de_int))) (da_cons (de_bin od_mul (de_ix (de_var (i := 0) rfl (.inl rfl)) (de_int)) (de_ix (de_var (i := 1) rfl (.inl rfl)) (de_int))) (da_nil)))))
/-! ### sign_of -/
def m_f_sign_of : MS := evRet (evIf (tB1 (ev2 opGt (ev2 ixD (evVar 0) (evC (.int 0))) (evC (.int 0)))) (evC (.int 1)) (evIf (tB1 (ev2 opEq (ev2 ixD (evVar 0) (evC (.int 0))) (evC (.int 0)))) (evC (.int 0)) (ev2 opSub (evC (.int 0)) (evC (.int 1)))))
def f_sign_of : MF := runB 1 m_f_sign_of
theorem kn_f_sign_of {P : Program} {w : World} {K : PySem.W.Frag} {mg : Str → Option Value} {base : Heap} {cs : Cs} {a0 : Option Addr} {lams : List LamI} (T : Facts K mg cs) (B : Bas base mg cs) : Kn P w K mg base (gOf cs a0 lams) (PySem.Str.ofString "sign_of") 1 1 f_sign_of [] := by
  obtain ⟨f, fd, cdv, D⟩ := T.d_f_sign_of
  refine kn_of (N := [(PySem.Str.ofString "one")]) (ps := [(PySem.Str.ofString "one")]) (k := 0) (fb := m_f_sign_of) D sc_f_sign_of rfl (fun _ _ _ _ _ _ us hl => match us, hl with | [_], _ => rfl) (fun A outer s H E on => ?_) fun _ _ _ _ => rfl
  exact dqs_one (dq_ret (de_if (dt_cmp od_gt (de_ix (de_var (i := 0) rfl (.inl rfl)) (de_int)) (de_int) rfl) (de_int) (de_if (dt_cmp (od_eq on.un) (de_ix (de_var (i := 0) rfl (.inl rfl)) (de_int)) (de_int) rfl) (de_int) (de_bin od_sub (de_int) (de_int)))))
/-! ### compared -/
def m_f_compared : MS := evRet (evCall 1 f_sign_of [] (evCons (evCall 2 f_minus [] (evCons (evVar 0) (evCons (evVar 1) (evNil)))) (evNil)))
def f_compared : MF := runB 2 m_f_compared
theorem kn_f_compared {P : Program} {w : World} {K : PySem.W.Frag} {mg : Str → Option Value} {base : Heap} {cs : Cs} {a0 : Option Addr} {lams : List LamI} (T : Facts K mg cs) (B : Bas base mg cs) : Kn P w K mg base (gOf cs a0 lams) (PySem.Str.ofString "compared") 3 2 f_compared [] := by
  obtain ⟨f, fd, cdv, D⟩ := T.d_f_compared
  refine kn_of (N := [(PySem.Str.ofString "one"), (PySem.Str.ofString "other")]) (ps := [(PySem.Str.ofString "one"), (PySem.Str.ofString "other")]) (k := 2) (fb := m_f_compared) D sc_f_compared rfl (fun _ _ _ _ _ _ us hl => match us, hl with | [_, _], _ => rfl) (fun A outer s H E on => ?_) fun _ _ _ _ => rfl
  exact dqs_one (dq_ret (de_kn (kn_f_sign_of T B) on (by decide) (da_cons (de_kn (kn_f_minus T B) on (by decide) (da_cons (de_var (i := 0) rfl (.inl rfl)) (da_cons (de_var (i := 1) rfl (.inl rfl)) (da_nil)))) (da_nil))))
/-! ### least_of -/
def m_f_least_of : MS := evThen (evIfS (tB1 (ev2 opEq (evB bLen (evCons (evVar 0) (evNil))) (evC (.int 0)))) (evRaise (PySem.Str.ofString "NumberError")) (evSkip)) (evThen (evSet 1 (ev2 ixD (evVar 0) (evC (.int 0)))) (evThen (evFor (evSeq (evVar 0)) (tgName 2) (evSet 1 (evIf (tB1 (ev2 opLt (evCall 2 f_compared [] (evCons (evVar 2) (evCons (evVar 1) (evNil)))) (evC (.int 0)))) (evVar 2) (evVar 1)))) (evRet (evVar 1))))
def f_least_of : MF := runB 3 m_f_least_of
theorem kn_f_least_of {P : Program} {w : World} {K : PySem.W.Frag} {mg : Str → Option Value} {base : Heap} {cs : Cs} {a0 : Option Addr} {lams : List LamI} (T : Facts K mg cs) (B : Bas base mg cs) : Kn P w K mg base (gOf cs a0 lams) (PySem.Str.ofString "least_of") 4 1 f_least_of [] := by
  obtain ⟨f, fd, cdv, D⟩ := T.d_f_least_of
  refine kn_of (N := [(PySem.Str.ofString "rows"), (PySem.Str.ofString "found"), (PySem.Str.ofString "one")]) (ps := [(PySem.Str.ofString "rows")]) (k := 3) (fb := m_f_least_of) D sc_f_least_of rfl (fun _ _ _ _ _ _ us hl => match us, hl with | [_], _ => rfl) (fun A outer s H E on => ?_) fun _ _ _ _ => rfl
  exact dqs_cons (dq_if (dt_cmp (od_eq on.un) (de_blt cd_len rfl T.b_len rfl (da_cons (de_var (i := 0) rfl (.inl rfl)) (da_nil))) (de_int) rfl) (dqs_one (dq_raise2 T.e_NumberError on rfl)) (dqs_nil)) (dqs_cons (dq_set (i := 1) sc_f_least_of.nd rfl (.inl rfl) (de_ix (de_var (i := 0) rfl (.inl rfl)) (de_int))) (dqs_cons (dq_for on.passes rfl (di_seq (de_var (i := 0) rfl (.inl rfl))) (dg_name (i := 2) (vs := [2]) (by decide) sc_f_least_of.nd rfl (.inl rfl)) (dqs_one (dq_set (i := 1) sc_f_least_of.nd rfl (.inl rfl) (de_if (dt_cmp od_lt (de_kn (kn_f_compared T B) on (by decide) (da_cons (de_var (i := 2) rfl (.inl rfl)) (da_cons (de_var (i := 1) rfl (.inl rfl)) (da_nil)))) (de_int) rfl) (de_var (i := 2) rfl (.inl rfl)) (de_var (i := 1) rfl (.inl rfl)))))) (dqs_one (dq_ret (de_var (i := 1) rfl (.inl rfl))))))
/-! ### greatest_of -/
def m_f_greatest_of : MS := evThen (evIfS (tB1 (ev2 opEq (evB bLen (evCons (evVar 0) (evNil))) (evC (.int 0)))) (evRaise (PySem.Str.ofString "NumberError")) (evSkip)) (evThen (evSet 1 (ev2 ixD (evVar 0) (evC (.int 0)))) (evThen (evFor (evSeq (evVar 0)) (tgName 2) (evSet 1 (evIf (tB1 (ev2 opGt (evCall 2 f_compared [] (evCons (evVar 2) (evCons (evVar 1) (evNil)))) (evC (.int 0)))) (evVar 2) (evVar 1)))) (evRet (evVar 1))))
def f_greatest_of : MF := runB 3 m_f_greatest_of
theorem kn_f_greatest_of {P : Program} {w : World} {K : PySem.W.Frag} {mg : Str → Option Value} {base : Heap} {cs : Cs} {a0 : Option Addr} {lams : List LamI} (T : Facts K mg cs) (B : Bas base mg cs) : Kn P w K mg base (gOf cs a0 lams) (PySem.Str.ofString "greatest_of") 4 1 f_greatest_of [] := by
  obtain ⟨f, fd, cdv, D⟩ := T.d_f_greatest_of
  refine kn_of (N := [(PySem.Str.ofString "rows"), (PySem.Str.ofString "found"), (PySem.Str.ofString "one")]) (ps := [(PySem.Str.ofString "rows")]) (k := 3) (fb := m_f_greatest_of) D sc_f_greatest_of rfl (fun _ _ _ _ _ _ us hl => match us, hl with | [_], _ => rfl) (fun A outer s H E on => ?_) fun _ _ _ _ => rfl
  exact dqs_cons (dq_if (dt_cmp (od_eq on.un) (de_blt cd_len rfl T.b_len rfl (da_cons (de_var (i := 0) rfl (.inl rfl)) (da_nil))) (de_int) rfl) (dqs_one (dq_raise2 T.e_NumberError on rfl)) (dqs_nil)) (dqs_cons (dq_set (i := 1) sc_f_greatest_of.nd rfl (.inl rfl) (de_ix (de_var (i := 0) rfl (.inl rfl)) (de_int))) (dqs_cons (dq_for on.passes rfl (di_seq (de_var (i := 0) rfl (.inl rfl))) (dg_name (i := 2) (vs := [2]) (by decide) sc_f_greatest_of.nd rfl (.inl rfl)) (dqs_one (dq_set (i := 1) sc_f_greatest_of.nd rfl (.inl rfl) (de_if (dt_cmp od_gt (de_kn (kn_f_compared T B) on (by decide) (da_cons (de_var (i := 2) rfl (.inl rfl)) (da_cons (de_var (i := 1) rfl (.inl rfl)) (da_nil)))) (de_int) rfl) (de_var (i := 2) rfl (.inl rfl)) (de_var (i := 1) rfl (.inl rfl)))))) (dqs_one (dq_ret (de_var (i := 1) rfl (.inl rfl))))))
/-! ### total -/
def m_f_total : MS := evThen (evSet 1 (evTup (evCons (evC (.int 0)) (evCons (evC (.int 1)) (evNil))))) (evThen (evFor (evSeq (evVar 0)) (tgName 2) (evSet 1 (evCall 2 f_plus [] (evCons (evVar 1) (evCons (evVar 2) (evNil)))))) (evRet (evVar 1)))
def f_total : MF := runB 3 m_f_total
theorem kn_f_total {P : Program} {w : World} {K : PySem.W.Frag} {mg : Str → Option Value} {base : Heap} {cs : Cs} {a0 : Option Addr} {lams : List LamI} (T : Facts K mg cs) (B : Bas base mg cs) : Kn P w K mg base (gOf cs a0 lams) (PySem.Str.ofString "total") 3 1 f_total [] := by
  obtain ⟨f, fd, cdv, D⟩ := T.d_f_total
  refine kn_of (N := [(PySem.Str.ofString "rows"), (PySem.Str.ofString "found"), (PySem.Str.ofString "one")]) (ps := [(PySem.Str.ofString "rows")]) (k := 2) (fb := m_f_total) D sc_f_total rfl (fun _ _ _ _ _ _ us hl => match us, hl with | [_], _ => rfl) (fun A outer s H E on => ?_) fun _ _ _ _ => rfl
  exact dqs_cons (dq_set (i := 1) sc_f_total.nd rfl (.inl rfl) (de_tup (da_cons (de_int) (da_cons (de_int) (da_nil))))) (dqs_cons (dq_for on.passes rfl (di_seq (de_var (i := 0) rfl (.inl rfl))) (dg_name (i := 2) (vs := [2]) (by decide) sc_f_total.nd rfl (.inl rfl)) (dqs_one (dq_set (i := 1) sc_f_total.nd rfl (.inl rfl) (de_kn (kn_f_plus T B) on (by decide) (da_cons (de_var (i := 1) rfl (.inl rfl)) (da_cons (de_var (i := 2) rfl (.inl rfl)) (da_nil))))))) (dqs_one (dq_ret (de_var (i := 1) rfl (.inl rfl)))))
/-! ### shown -/
def m_f_shown : MS := evRet (evIf (tB1 (ev2 opEq (ev2 ixD (evVar 0) (evC (.int 1))) (evC (.int 1)))) (evB bStr (evCons (ev2 ixD (evVar 0) (evC (.int 0))) (evNil))) (evJs [evFmtD (ev2 ixD (evVar 0) (evC (.int 0))), evC (.str (PySem.Str.ofString "/")), evFmtD (ev2 ixD (evVar 0) (evC (.int 1)))] Str.empty))
def f_shown : MF := runB 1 m_f_shown
theorem kn_f_shown {P : Program} {w : World} {K : PySem.W.Frag} {mg : Str → Option Value} {base : Heap} {cs : Cs} {a0 : Option Addr} {lams : List LamI} (T : Facts K mg cs) (B : Bas base mg cs) : Kn P w K mg base (gOf cs a0 lams) (PySem.Str.ofString "shown") 1 1 f_shown [] := by
  obtain ⟨f, fd, cdv, D⟩ := T.d_f_shown
  refine kn_of (N := [(PySem.Str.ofString "one")]) (ps := [(PySem.Str.ofString "one")]) (k := 0) (fb := m_f_shown) D sc_f_shown rfl (fun _ _ _ _ _ _ us hl => match us, hl with | [_], _ => rfl) (fun A outer s H E on => ?_) fun _ _ _ _ => rfl
  exact dqs_one (dq_ret (de_if (dt_cmp (od_eq on.un) (de_ix (de_var (i := 0) rfl (.inl rfl)) (de_int)) (de_int) rfl) (de_bty cd_str rfl T.b_str rfl (da_cons (de_ix (de_var (i := 0) rfl (.inl rfl)) (de_int)) (da_nil))) (de_js (FJ.cons (de_fmt (de_ix (de_var (i := 0) rfl (.inl rfl)) (de_int))) (FJ.cons (de_str) (FJ.cons (de_fmt (de_ix (de_var (i := 0) rfl (.inl rfl)) (de_int))) (FJ.nil)))))))
/-! ### read -/
def m_f_read : MS := evThen (evSet 1 (ev2 mSplit (onStr (evVar 0)) (evC (.str (PySem.Str.ofString "/"))))) (evThen (evIfS (tB1 (ev2 opGt (evB bLen (evCons (evVar 1) (evNil))) (evC (.int 2)))) (evRaise (PySem.Str.ofString "NumberError")) (evSkip)) (evThen (evOwn 2 (evLst (evNil))) (evThen (evFor (evEnum (evCons (evVar 1) (evNil))) (tgTup 2 (tgCons (tgName 3) (tgCons (tgName 4) (tgNil)))) (evThen (evSet 5 (evIf (tAndD (tB1 (ev2 opEq (evVar 3) (evC (.int 0)))) (tTru (ev2 mStarts (onStr (evVar 4)) (evC (.str (PySem.Str.ofString "-")))))) (evSl (evVar 4) (evO1 (evC (.int 1))) (evO0)) (evVar 4))) (evThen (evIfS (tOrD (tNotD (tB1 (ev3 opLt opLe (evC (.int 0)) (evB bLen (evCons (evVar 5) (evNil))) (evC (.int 9))))) (tTru (evAnyS (niS (PySem.Str.ofString "0123456789")) (evVar 5)))) (evRaise (PySem.Str.ofString "NumberError")) (evSkip)) (evApp 2 (evIf (tTru (ev2 mStarts (onStr (evVar 4)) (evC (.str (PySem.Str.ofString "-"))))) (ev2 opSub (evC (.int 0)) (evB bInt (evCons (evVar 5) (evNil)))) (evB bInt (evCons (evVar 5) (evNil)))))))) (evRet (evCall 2 f_number [] (evCons (ev2 ixD (evVar 2) (evC (.int 0))) (evCons (evIf (tB1 (ev2 opEq (evB bLen (evCons (evVar 2) (evNil))) (evC (.int 2)))) (ev2 ixD (evVar 2) (evC (.int 1))) (evC (.int 1))) (evNil))))))))
def f_read : MF := runB 6 m_f_read
theorem kn_f_read {P : Program} {w : World} {K : PySem.W.Frag} {mg : Str → Option Value} {base : Heap} {cs : Cs} {a0 : Option Addr} {lams : List LamI} (T : Facts K mg cs) (B : Bas base mg cs) : Kn P w K mg base (gOf cs a0 lams) (PySem.Str.ofString "read") 2 1 f_read [] := by
  obtain ⟨f, fd, D⟩ := T.d_f_read
  refine kn_of (N := [(PySem.Str.ofString "text"), (PySem.Str.ofString "parts"), (PySem.Str.ofString "wholes"), (PySem.Str.ofString "place"), (PySem.Str.ofString "part"), (PySem.Str.ofString "body")]) (ps := [(PySem.Str.ofString "text")]) (k := 1) (fb := m_f_read) D sc_f_read rfl (fun _ _ _ _ _ _ us hl => match us, hl with | [_], _ => rfl) (fun A outer s H E on => ?_) fun _ _ _ _ => rfl
  exact dqs_cons (dq_set (i := 1) sc_f_read.nd rfl (.inl rfl) (de_split (de_var (i := 0) rfl (.inl rfl)) (de_str))) (dqs_cons (dq_if (dt_cmp od_gt (de_blt cd_len rfl T.b_len rfl (da_cons (de_var (i := 1) rfl (.inl rfl)) (da_nil))) (de_int) rfl) (dqs_one (dq_raise2 T.e_NumberError on rfl)) (dqs_nil)) (dqs_cons (dq_own (i := 2) sc_f_read.nd rfl (.inl rfl) (dn_lst (da_nil))) (dqs_cons (dq_for on.passes rfl (di_enum rfl T.b_enumerate (da_cons (de_var (i := 1) rfl (.inl rfl)) (da_nil))) (dg_tup rfl (dgs_cons (dg_name (i := 3) (vs := [3, 4]) (by decide) sc_f_read.nd rfl (.inl rfl)) (dgs_cons (dg_name (i := 4) (vs := [3, 4]) (by decide) sc_f_read.nd rfl (.inl rfl)) (dgs_nil)))) (dqs_cons (dq_set (i := 5) sc_f_read.nd rfl (.inl rfl) (de_if (dt_bool (dw_and (dt_cmp (od_eq on.un) (de_var (i := 3) rfl (.inl rfl)) (de_int) rfl) (dw_and1 (dt_val (de_starts (de_var (i := 4) rfl (.inl rfl)) (de_str)))))) (de_sl (de_var (i := 4) rfl (.inl rfl)) (do_some (de_int)) (do_none)) (de_var (i := 4) rfl (.inl rfl)))) (dqs_cons (dq_if (dt_bool (dw_or (dt_not (dt_chain od_lt od_le (de_int) (de_blt cd_len rfl T.b_len rfl (da_cons (de_var (i := 5) rfl (.inl rfl)) (da_nil))) (de_int))) (dw_or1 (dt_val (de_anyS on.room rfl T.b_any B.f_read (gtok_f_read T) rfl (gen_of rfl) (de_var (i := 5) rfl (.inl rfl)) (elt_ni rfl rfl) (fun _ => rfl)))))) (dqs_one (dq_raise2 T.e_NumberError on rfl)) (dqs_nil)) (dqs_one (dq_app (i := 2) rfl (.inl rfl) (de_if (dt_val (de_starts (de_var (i := 4) rfl (.inl rfl)) (de_str))) (de_bin od_sub (de_int) (de_bty cd_int rfl T.b_int rfl (da_cons (de_var (i := 5) rfl (.inl rfl)) (da_nil)))) (de_bty cd_int rfl T.b_int rfl (da_cons (de_var (i := 5) rfl (.inl rfl)) (da_nil))))))))) (dqs_one (dq_ret (de_kn (kn_f_number_2 T B) on (by decide) (da_cons (de_ix (de_var (i := 2) rfl (.inl rfl)) (de_int)) (da_cons (de_if (dt_cmp (od_eq on.un) (de_blt cd_len rfl T.b_len rfl (da_cons (de_var (i := 2) rfl (.inl rfl)) (da_nil))) (de_int) rfl) (de_ix (de_var (i := 2) rfl (.inl rfl)) (de_int)) (de_int)) (da_nil)))))))))
/-! ### whole_below -/
def m_f_whole_below : MS := evRet (ev2 opDiv (ev2 ixD (evVar 0) (evC (.int 0))) (ev2 ixD (evVar 0) (evC (.int 1))))
def f_whole_below : MF := runB 1 m_f_whole_below
theorem kn_f_whole_below {P : Program} {w : World} {K : PySem.W.Frag} {mg : Str → Option Value} {base : Heap} {cs : Cs} {a0 : Option Addr} {lams : List LamI} (T : Facts K mg cs) (B : Bas base mg cs) : Kn P w K mg base (gOf cs a0 lams) (PySem.Str.ofString "whole_below") 1 1 f_whole_below [] := by
  obtain ⟨f, fd, cdv, D⟩ := T.d_f_whole_below
  refine kn_of (N := [(PySem.Str.ofString "one")]) (ps := [(PySem.Str.ofString "one")]) (k := 0) (fb := m_f_whole_below) D sc_f_whole_below rfl (fun _ _ _ _ _ _ us hl => match us, hl with | [_], _ => rfl) (fun A outer s H E on => ?_) fun _ _ _ _ => rfl
  exact dqs_one (dq_ret (de_bin od_div (de_ix (de_var (i := 0) rfl (.inl rfl)) (de_int)) (de_ix (de_var (i := 0) rfl (.inl rfl)) (de_int))))
/-! ### three_by_three -/
def m_f_three_by_three : MS := evThen (evSet 3 (evCall 2 f_times [] (evCons (ev2 ixD (evVar 0) (evC (.int 0))) (evCons (evCall 2 f_minus [] (evCons (evCall 2 f_times [] (evCons (ev2 ixD (evVar 1) (evC (.int 1))) (evCons (ev2 ixD (evVar 2) (evC (.int 2))) (evNil)))) (evCons (evCall 2 f_times [] (evCons (ev2 ixD (evVar 1) (evC (.int 2))) (evCons (ev2 ixD (evVar 2) (evC (.int 1))) (evNil)))) (evNil)))) (evNil))))) (evThen (evSet 3 (evCall 2 f_minus [] (evCons (evVar 3) (evCons (evCall 2 f_times [] (evCons (ev2 ixD (evVar 0) (evC (.int 1))) (evCons (evCall 2 f_minus [] (evCons (evCall 2 f_times [] (evCons (ev2 ixD (evVar 1) (evC (.int 0))) (evCons (ev2 ixD (evVar 2) (evC (.int 2))) (evNil)))) (evCons (evCall 2 f_times [] (evCons (ev2 ixD (evVar 1) (evC (.int 2))) (evCons (ev2 ixD (evVar 2) (evC (.int 0))) (evNil)))) (evNil)))) (evNil)))) (evNil))))) (evRet (evCall 2 f_plus [] (evCons (evVar 3) (evCons (evCall 2 f_times [] (evCons (ev2 ixD (evVar 0) (evC (.int 2))) (evCons (evCall 2 f_minus [] (evCons (evCall 2 f_times [] (evCons (ev2 ixD (evVar 1) (evC (.int 0))) (evCons (ev2 ixD (evVar 2) (evC (.int 1))) (evNil)))) (evCons (evCall 2 f_times [] (evCons (ev2 ixD (evVar 1) (evC (.int 1))) (evCons (ev2 ixD (evVar 2) (evC (.int 0))) (evNil)))) (evNil)))) (evNil)))) (evNil))))))
def f_three_by_three : MF := runB 4 m_f_three_by_three
theorem kn_f_three_by_three {P : Program} {w : World} {K : PySem.W.Frag} {mg : Str → Option Value} {base : Heap} {cs : Cs} {a0 : Option Addr} {lams : List LamI} (T : Facts K mg cs) (B : Bas base mg cs) : Kn P w K mg base (gOf cs a0 lams) (PySem.Str.ofString "three_by_three") 3 3 f_three_by_three [] := by
  obtain ⟨f, fd, cdv, D⟩ := T.d_f_three_by_three
  refine kn_of (N := [(PySem.Str.ofString "one"), (PySem.Str.ofString "other"), (PySem.Str.ofString "third"), (PySem.Str.ofString "found")]) (ps := [(PySem.Str.ofString "one"), (PySem.Str.ofString "other"), (PySem.Str.ofString "third")]) (k := 2) (fb := m_f_three_by_three) D sc_f_three_by_three rfl (fun _ _ _ _ _ _ us hl => match us, hl with | [_, _, _], _ => rfl) (fun A outer s H E on => ?_) fun _ _ _ _ => rfl
  exact dqs_cons (dq_set (i := 3) sc_f_three_by_three.nd rfl (.inl rfl) (de_kn (kn_f_times T B) on (by decide) (da_cons (de_ix (de_var (i := 0) rfl (.inl rfl)) (de_int)) (da_cons (de_kn (kn_f_minus T B) on (by decide) (da_cons (de_kn (kn_f_times T B) on (by decide) (da_cons (de_ix (de_var (i := 1) rfl (.inl rfl)) (de_int)) (da_cons (de_ix (de_var (i := 2) rfl (.inl rfl)) (de_int)) (da_nil)))) (da_cons (de_kn (kn_f_times T B) on (by decide) (da_cons (de_ix (de_var (i := 1) rfl (.inl rfl)) (de_int)) (da_cons (de_ix (de_var (i := 2) rfl (.inl rfl)) (de_int)) (da_nil)))) (da_nil)))) (da_nil))))) (dqs_cons (dq_set (i := 3) sc_f_three_by_three.nd rfl (.inl rfl) (de_kn (kn_f_minus T B) on (by decide) (da_cons (de_var (i := 3) rfl (.inl rfl)) (da_cons (de_kn (kn_f_times T B) on (by decide) (da_cons (de_ix (de_var (i := 0) rfl (.inl rfl)) (de_int)) (da_cons (de_kn (kn_f_minus T B) on (by decide) (da_cons (de_kn (kn_f_times T B) on (by decide) (da_cons (de_ix (de_var (i := 1) rfl (.inl rfl)) (de_int)) (da_cons (de_ix (de_var (i := 2) rfl (.inl rfl)) (de_int)) (da_nil)))) (da_cons (de_kn (kn_f_times T B) on (by decide) (da_cons (de_ix (de_var (i := 1) rfl (.inl rfl)) (de_int)) (da_cons (de_ix (de_var (i := 2) rfl (.inl rfl)) (de_int)) (da_nil)))) (da_nil)))) (da_nil)))) (da_nil))))) (dqs_one (dq_ret (de_kn (kn_f_plus T B) on (by decide) (da_cons (de_var (i := 3) rfl (.inl rfl)) (da_cons (de_kn (kn_f_times T B) on (by decide) (da_cons (de_ix (de_var (i := 0) rfl (.inl rfl)) (de_int)) (da_cons (de_kn (kn_f_minus T B) on (by decide) (da_cons (de_kn (kn_f_times T B) on (by decide) (da_cons (de_ix (de_var (i := 1) rfl (.inl rfl)) (de_int)) (da_cons (de_ix (de_var (i := 2) rfl (.inl rfl)) (de_int)) (da_nil)))) (da_cons (de_kn (kn_f_times T B) on (by decide) (da_cons (de_ix (de_var (i := 1) rfl (.inl rfl)) (de_int)) (da_cons (de_ix (de_var (i := 2) rfl (.inl rfl)) (de_int)) (da_nil)))) (da_nil)))) (da_nil)))) (da_nil)))))))
/-! ### _law_dice -/
def m_f_law_dice : MS := evThen (evIfS (tB1 (ev3 opLt opLt (ev2 opSub (evC (.int 0)) (evC (.int 10))) (evVar 0) (evC (.int 10)))) (evRet (evFrz (evLst (evCons (evB bAbs (evCons (evVar 0) (evNil))) (evCons (evC (.int 0)) (evCons (evC (.int 2)) (evNil))))))) (evSkip)) (evRet (evFrz (evLst (evCons (evVar 0) (evCons (ev2 opAdd (evC (.int 1)) (ev2 opMod (evB bInt (evCons (evVar 0) (evNil))) (evC (.int 1009)))) (evCons (evB bInt (evCons (ev2 opGe (evVar 0) (ev2 opPow (evC (.int 10)) (evC (.int 18)))) (evNil))) (evNil)))))))
def f_law_dice : MF := runB 1 m_f_law_dice
theorem kn_f_law_dice {P : Program} {w : World} {K : PySem.W.Frag} {mg : Str → Option Value} {base : Heap} {cs : Cs} {a0 : Option Addr} {lams : List LamI} (T : Facts K mg cs) (B : Bas base mg cs) : Kn P w K mg base (gOf cs a0 lams) (PySem.Str.ofString "_law_dice") 1 1 f_law_dice [] := by
  obtain ⟨f, fd, cdv, D⟩ := T.d_f_law_dice
  refine kn_of (N := [(PySem.Str.ofString "cell")]) (ps := [(PySem.Str.ofString "cell")]) (k := 0) (fb := m_f_law_dice) D sc_f_law_dice rfl (fun _ _ _ _ _ _ us hl => match us, hl with | [_], _ => rfl) (fun A outer s H E on => ?_) fun _ _ _ _ => rfl
  exact dqs_cons (dq_if (dt_chain od_lt od_lt (de_bin od_sub (de_int) (de_int)) (de_var (i := 0) rfl (.inl rfl)) (de_int)) (dqs_one (dq_ret (de_new (dn_lst (da_cons (de_blt cd_abs rfl T.b_abs rfl (da_cons (de_var (i := 0) rfl (.inl rfl)) (da_nil))) (da_cons (de_int) (da_cons (de_int) (da_nil)))))))) (dqs_nil)) (dqs_one (dq_ret (de_new (dn_lst (da_cons (de_var (i := 0) rfl (.inl rfl)) (da_cons (de_bin od_add (de_int) (de_bin od_mod (de_bty cd_int rfl T.b_int rfl (da_cons (de_var (i := 0) rfl (.inl rfl)) (da_nil))) (de_int))) (da_cons (de_bty cd_int rfl T.b_int rfl (da_cons (de_cmp od_ge (de_var (i := 0) rfl (.inl rfl)) (de_bin od_pow (de_int) (de_int)) rfl) (da_nil))) (da_nil))))))))
/-! ### _law_roll -/
def m_f_law_roll : MS := evThen (evIfS (tOrD (tB1 (ev2 opEq (ev2s ixS (evVar 0) (evC (.int 2))) (evC (.int 2)))) (tAndD (tB1 (ev2 opEq (ev2s ixS (evVar 0) (evC (.int 2))) (evC (.int 1)))) (tB1 (ev2 opGt (ev2s ixS (evVar 0) (evC (.int 0))) (evC (.int 0)))))) (evThen (evSet 2 (ev2 opMod (evB bInt (evCons (ev2s ixS (evVar 0) (evC (.int 0))) (evNil))) (evVar 1))) (evThen (evDset (ev2 opDiv (ev2s ixS (evVar 0) (evC (.int 0))) (evVar 1)) (evVar 0) 0) (evRet (evVar 2)))) (evSkip)) (evThen (evDset (evC (.int 0)) (evVar 0) 2) (evThen (evIfS (tB1 (ev2 opGt (evVar 1) (evC (.int 100000000)))) (evRet (ev2 opMod (evB bInt (evCons (ev2 opAdd (ev2 opMul (evCall 2 mStuck [] (evCons (evVar 0) (evCons (ev2 opAdd (ev2 opDiv (evVar 1) (evC (.int 100000000))) (evC (.int 1))) (evNil)))) (evC (.int 100000000))) (evCall 2 mStuck [] (evCons (evVar 0) (evCons (evC (.int 100000000)) (evNil))))) (evNil))) (evVar 1))) (evSkip)) (evThen (evDset (ev2 opMod (evB bInt (evCons (ev2 opAdd (ev2 opAdd (ev2 opMul (ev2s ixS (evVar 0) (evC (.int 0))) (evC (.int 48271))) (ev2 opMul (ev2s ixS (evVar 0) (evC (.int 1))) (evC (.int 69621)))) (evC (.int 11))) (evNil))) (evC (.int 2147483647))) (evVar 0) 0) (evThen (evDset (ev2 opAdd (ev2s ixS (evVar 0) (evC (.int 1))) (evC (.int 1))) (evVar 0) 1) (evRet (ev2 opMod (evB bInt (evCons (ev2 opDiv (ev2s ixS (evVar 0) (evC (.int 0))) (evC (.int 7))) (evNil))) (evVar 1)))))))
def f_law_roll : MF := runB 3 m_f_law_roll
theorem knS_f_law_roll {P : Program} {w : World} {K : PySem.W.Frag} {mg : Str → Option Value} {base : Heap} {cs : Cs} {a0 : Option Addr} {lams : List LamI} (T : Facts K mg cs) {k : Nat} : Kn P w K mg base (gOf cs a0 lams) (PySem.Str.ofString "_law_roll") k 2 mStuck [] := by
  obtain ⟨f, fd, cdv, D⟩ := T.d_f_law_roll
  exact kn_stuck (ps := [(PySem.Str.ofString "dice"), (PySem.Str.ofString "many")]) D rfl (fun _ _ _ _ _ _ us hl => match us, hl with | [_, _], _ => rfl)
theorem kn_f_law_roll {P : Program} {w : World} {K : PySem.W.Frag} {mg : Str → Option Value} {base : Heap} {cs : Cs} {a0 : Option Addr} {lams : List LamI} (T : Facts K mg cs) (B : Bas base mg cs) : Kn P w K mg base (gOf cs a0 lams) (PySem.Str.ofString "_law_roll") 1 2 f_law_roll [] := by
  obtain ⟨f, fd, cdv, D⟩ := T.d_f_law_roll
  refine kn_of (N := [(PySem.Str.ofString "dice"), (PySem.Str.ofString "many"), (PySem.Str.ofString "found")]) (ps := [(PySem.Str.ofString "dice"), (PySem.Str.ofString "many")]) (k := 0) (fb := m_f_law_roll) D sc_f_law_roll rfl (fun _ _ _ _ _ _ us hl => match us, hl with | [_, _], _ => rfl) (fun A outer s H E on => ?_) fun _ _ _ _ => rfl
  exact dqs_cons (dq_if (dt_bool (dw_or (dt_cmp (od_eq on.un) (de_ixs (de_var (i := 0) rfl (.inl rfl)) (de_int)) (de_int) rfl) (dw_or1 (dt_bool (dw_and (dt_cmp (od_eq on.un) (de_ixs (de_var (i := 0) rfl (.inl rfl)) (de_int)) (de_int) rfl) (dw_and1 (dt_cmp od_gt (de_ixs (de_var (i := 0) rfl (.inl rfl)) (de_int)) (de_int) rfl))))))) (dqs_cons (dq_set (i := 2) sc_f_law_roll.nd rfl (.inl rfl) (de_bin od_mod (de_bty cd_int rfl T.b_int rfl (da_cons (de_ixs (de_var (i := 0) rfl (.inl rfl)) (de_int)) (da_nil))) (de_var (i := 1) rfl (.inl rfl)))) (dqs_cons (dq_dset (de_bin od_div (de_ixs (de_var (i := 0) rfl (.inl rfl)) (de_int)) (de_var (i := 1) rfl (.inl rfl))) (de_var (i := 0) rfl (.inl rfl))) (dqs_one (dq_ret (de_var (i := 2) rfl (.inl rfl)))))) (dqs_nil)) (dqs_cons (dq_dset (de_int) (de_var (i := 0) rfl (.inl rfl))) (dqs_cons (dq_if (dt_cmp od_gt (de_var (i := 1) rfl (.inl rfl)) (de_int) rfl) (dqs_one (dq_ret (de_bin od_mod (de_bty cd_int rfl T.b_int rfl (da_cons (de_bin od_add (de_bin od_mul (de_kn (knS_f_law_roll (k := 0) T) on (by decide) (da_cons (de_var (i := 0) rfl (.inl rfl)) (da_cons (de_bin od_add (de_bin od_div (de_var (i := 1) rfl (.inl rfl)) (de_int)) (de_int)) (da_nil)))) (de_int)) (de_kn (knS_f_law_roll (k := 0) T) on (by decide) (da_cons (de_var (i := 0) rfl (.inl rfl)) (da_cons (de_int) (da_nil))))) (da_nil))) (de_var (i := 1) rfl (.inl rfl))))) (dqs_nil)) (dqs_cons (dq_dset (de_bin od_mod (de_bty cd_int rfl T.b_int rfl (da_cons (de_bin od_add (de_bin od_add (de_bin od_mul (de_ixs (de_var (i := 0) rfl (.inl rfl)) (de_int)) (de_int)) (de_bin od_mul (de_ixs (de_var (i := 0) rfl (.inl rfl)) (de_int)) (de_int))) (de_int)) (da_nil))) (de_int)) (de_var (i := 0) rfl (.inl rfl))) (dqs_cons (dq_dset (de_bin od_add (de_ixs (de_var (i := 0) rfl (.inl rfl)) (de_int)) (de_int)) (de_var (i := 0) rfl (.inl rfl))) (dqs_one (dq_ret (de_bin od_mod (de_bty cd_int rfl T.b_int rfl (da_cons (de_bin od_div (de_ixs (de_var (i := 0) rfl (.inl rfl)) (de_int)) (de_int)) (da_nil))) (de_var (i := 1) rfl (.inl rfl)))))))))
/-! ### _law_rounds -/
def m_f_law_rounds : MS := evThen (evSet 2 (evSl (evVar 0) (evO0) (evO1 (evVar 1)))) (evThen (evIfS (tB1 (ev2 opEq (evVar 2) (evFrz (evLst (evNil))))) (evOwn 2 (evLst (evCons (evC (.int 0)) (evNil)))) (evSkip)) (evRet (evFrz (evLc [3] (evSeq (evVar 2)) (tgName 3) (evYes) (evCall 1 f_law_dice [] (evCons (evVar 3) (evNil)))))))
def f_law_rounds : MF := runB 4 m_f_law_rounds
theorem kn_f_law_rounds {P : Program} {w : World} {K : PySem.W.Frag} {mg : Str → Option Value} {base : Heap} {cs : Cs} {a0 : Option Addr} {lams : List LamI} (T : Facts K mg cs) (B : Bas base mg cs) : Kn P w K mg base (gOf cs a0 lams) (PySem.Str.ofString "_law_rounds") 2 2 f_law_rounds [] := by
  obtain ⟨f, fd, cdv, D⟩ := T.d_f_law_rounds
  refine kn_of (N := [(PySem.Str.ofString "script"), (PySem.Str.ofString "most"), (PySem.Str.ofString "cells"), (PySem.Str.ofString "cell")]) (ps := [(PySem.Str.ofString "script"), (PySem.Str.ofString "most")]) (k := 1) (fb := m_f_law_rounds) D sc_f_law_rounds rfl (fun _ _ _ _ _ _ us hl => match us, hl with | [_, _], _ => rfl) (fun A outer s H E on => ?_) fun _ _ _ _ => rfl
  exact dqs_cons (dq_set (i := 2) sc_f_law_rounds.nd rfl (.inl rfl) (de_sl (de_var (i := 0) rfl (.inl rfl)) (do_none) (do_some (de_var (i := 1) rfl (.inl rfl))))) (dqs_cons (dq_if (dt_cmp (od_eq on.un) (de_var (i := 2) rfl (.inl rfl)) (de_new (dn_lst (da_nil))) rfl) (dqs_one (dq_own (i := 2) sc_f_law_rounds.nd rfl (.inl rfl) (dn_lst (da_cons (de_int) (da_nil))))) (dqs_nil)) (dqs_one (dq_ret (de_new (dn_lc (own := [((PySem.Str.ofString "cell"), 3)]) rfl sc_f_law_rounds.nd (di_seq (de_var (i := 2) rfl (.inl rfl))) (blk_of rfl) (fun _ _ _ _ _ => dg_name (i := 3) (vs := [3]) (by decide) sc_f_law_rounds.nd rfl (.inl rfl)) (fun _ _ _ _ _ => dts_nil) (fun _ _ _ _ _ => de_kn (kn_f_law_dice T B) (on.blk _ _ _ _ _) (by decide) (da_cons (de_var (i := 3) rfl (.inl rfl)) (da_nil))))))))
/-! ### _law_least -/
def m_f_law_least : MS := evThen (evPar 2 3 (evCons (evB bAbs (evCons (evVar 0) (evNil))) (evCons (evB bAbs (evCons (evVar 1) (evNil))) (evNil)))) (evThen (evWhile (fuI 3) (tB1 (ev2 opNe (evVar 3) (evC (.int 0)))) (evPar 2 3 (evCons (evVar 3) (evCons (ev2 opMod (evVar 2) (evVar 3)) (evNil))))) (evRet (evIf (tB1 (ev2 opGt (evVar 1) (evC (.int 0)))) (evTup (evCons (ev2 opDiv (evVar 0) (evVar 2)) (evCons (ev2 opDiv (evVar 1) (evVar 2)) (evNil)))) (evTup (evCons (ev2 opDiv (ev1 evNeg (evVar 0)) (evVar 2)) (evCons (ev2 opDiv (ev1 evNeg (evVar 1)) (evVar 2)) (evNil)))))))
def f_law_least : MF := runB 4 m_f_law_least
theorem kn_f_law_least {P : Program} {w : World} {K : PySem.W.Frag} {mg : Str → Option Value} {base : Heap} {cs : Cs} {a0 : Option Addr} {lams : List LamI} (T : Facts K mg cs) (B : Bas base mg cs) : Kn P w K mg base (gOf cs a0 lams) (PySem.Str.ofString "_law_least") 1 2 f_law_least [] := by
  obtain ⟨f, fd, cdv, D⟩ := T.d_f_law_least
  refine kn_of (N := [(PySem.Str.ofString "top"), (PySem.Str.ofString "bottom"), (PySem.Str.ofString "one"), (PySem.Str.ofString "other")]) (ps := [(PySem.Str.ofString "top"), (PySem.Str.ofString "bottom")]) (k := 0) (fb := m_f_law_least) D sc_f_law_least rfl (fun _ _ _ _ _ _ us hl => match us, hl with | [_, _], _ => rfl) (fun A outer s H E on => ?_) fun _ _ _ _ => rfl
  exact dqs_cons (dq_par2 (i := 2) (j := 3) rfl sc_f_law_least.nd rfl rfl (by decide) rfl rfl (da_cons (de_blt cd_abs rfl T.b_abs rfl (da_cons (de_var (i := 0) rfl (.inl rfl)) (da_nil))) (da_cons (de_blt cd_abs rfl T.b_abs rfl (da_cons (de_var (i := 1) rfl (.inl rfl)) (da_nil))) (da_nil))) rfl) (dqs_cons (dq_while (fuI 3) on.passes (dt_cmp (od_ne on.un) (de_var (i := 3) rfl (.inl rfl)) (de_int) rfl) (dqs_one (dq_par2 (i := 2) (j := 3) rfl sc_f_law_least.nd rfl rfl (by decide) rfl rfl (da_cons (de_var (i := 3) rfl (.inl rfl)) (da_cons (de_bin od_mod (de_var (i := 2) rfl (.inl rfl)) (de_var (i := 3) rfl (.inl rfl))) (da_nil))) rfl))) (dqs_one (dq_ret (de_if (dt_cmp od_gt (de_var (i := 1) rfl (.inl rfl)) (de_int) rfl) (de_tup (da_cons (de_bin od_div (de_var (i := 0) rfl (.inl rfl)) (de_var (i := 2) rfl (.inl rfl))) (da_cons (de_bin od_div (de_var (i := 1) rfl (.inl rfl)) (de_var (i := 2) rfl (.inl rfl))) (da_nil)))) (de_tup (da_cons (de_bin od_div (de_neg (de_var (i := 0) rfl (.inl rfl))) (de_var (i := 2) rfl (.inl rfl))) (da_cons (de_bin od_div (de_neg (de_var (i := 1) rfl (.inl rfl))) (de_var (i := 2) rfl (.inl rfl))) (da_nil))))))))
/-! ### _law_plus -/
def m_f_law_plus : MS := evRet (evCall 2 f_law_least [] (evCons (ev2 opAdd (ev2 opMul (ev2 ixD (evVar 0) (evC (.int 0))) (ev2 ixD (evVar 1) (evC (.int 1)))) (ev2 opMul (ev2 ixD (evVar 1) (evC (.int 0))) (ev2 ixD (evVar 0) (evC (.int 1))))) (evCons (ev2 opMul (ev2 ixD (evVar 0) (evC (.int 1))) (ev2 ixD (evVar 1) (evC (.int 1)))) (evNil))))
def f_law_plus : MF := runB 2 m_f_law_plus
theorem kn_f_law_plus {P : Program} {w : World} {K : PySem.W.Frag} {mg : Str → Option Value} {base : Heap} {cs : Cs} {a0 : Option Addr} {lams : List LamI} (T : Facts K mg cs) (B : Bas base mg cs) : Kn P w K mg base (gOf cs a0 lams) (PySem.Str.ofString "_law_plus") 2 2 f_law_plus [] := by
  obtain ⟨f, fd, cdv, D⟩ := T.d_f_law_plus
  refine kn_of (N := [(PySem.Str.ofString "one"), (PySem.Str.ofString "other")]) (ps := [(PySem.Str.ofString "one"), (PySem.Str.ofString "other")]) (k := 1) (fb := m_f_law_plus) D sc_f_law_plus rfl (fun _ _ _ _ _ _ us hl => match us, hl with | [_, _], _ => rfl) (fun A outer s H E on => ?_) fun _ _ _ _ => rfl
  exact dqs_one (dq_ret (de_kn (kn_f_law_least T B) on (by decide) (da_cons (de_bin od_add (de_bin od_mul (de_ix (de_var (i := 0) rfl (.inl rfl)) (de_int)) (de_ix (de_var (i := 1) rfl (.inl rfl)) (de_int))) (de_bin od_mul (de_ix (de_var (i := 1) rfl (.inl rfl)) (de_int)) (de_ix (de_var (i := 0) rfl (.inl rfl)) (de_int)))) (da_cons (de_bin od_mul (de_ix (de_var (i := 0) rfl (.inl rfl)) (de_int)) (de_ix (de_var (i := 1) rfl (.inl rfl)) (de_int))) (da_nil)))))
/-! ### _law_times -/
def m_f_law_times : MS := evRet (evCall 2 f_law_least [] (evCons (ev2 opMul (ev2 ixD (evVar 0) (evC (.int 0))) (ev2 ixD (evVar 1) (evC (.int 0)))) (evCons (ev2 opMul (ev2 ixD (evVar 0) (evC (.int 1))) (ev2 ixD (evVar 1) (evC (.int 1)))) (evNil))))
def f_law_times : MF := runB 2 m_f_law_times
theorem kn_f_law_times {P : Program} {w : World} {K : PySem.W.Frag} {mg : Str → Option Value} {base : Heap} {cs : Cs} {a0 : Option Addr} {lams : List LamI} (T : Facts K mg cs) (B : Bas base mg cs) : Kn P w K mg base (gOf cs a0 lams) (PySem.Str.ofString "_law_times") 2 2 f_law_times [] := by
  obtain ⟨f, fd, cdv, D⟩ := T.d_f_law_times
  refine kn_of (N := [(PySem.Str.ofString "one"), (PySem.Str.ofString "other")]) (ps := [(PySem.Str.ofString "one"), (PySem.Str.ofString "other")]) (k := 1) (fb := m_f_law_times) D sc_f_law_times rfl (fun _ _ _ _ _ _ us hl => match us, hl with | [_, _], _ => rfl) (fun A outer s H E on => ?_) fun _ _ _ _ => rfl
  exact dqs_one (dq_ret (de_kn (kn_f_law_least T B) on (by decide) (da_cons (de_bin od_mul (de_ix (de_var (i := 0) rfl (.inl rfl)) (de_int)) (de_ix (de_var (i := 1) rfl (.inl rfl)) (de_int))) (da_cons (de_bin od_mul (de_ix (de_var (i := 0) rfl (.inl rfl)) (de_int)) (de_ix (de_var (i := 1) rfl (.inl rfl)) (de_int))) (da_nil)))))
/-! ### _law_less -/
def m_f_law_less : MS := evRet (evCall 2 f_law_plus [] (evCons (evVar 0) (evCons (evTup (evCons (ev1 evNeg (ev2 ixD (evVar 1) (evC (.int 0)))) (evCons (ev2 ixD (evVar 1) (evC (.int 1))) (evNil)))) (evNil))))
def f_law_less : MF := runB 2 m_f_law_less
theorem kn_f_law_less {P : Program} {w : World} {K : PySem.W.Frag} {mg : Str → Option Value} {base : Heap} {cs : Cs} {a0 : Option Addr} {lams : List LamI} (T : Facts K mg cs) (B : Bas base mg cs) : Kn P w K mg base (gOf cs a0 lams) (PySem.Str.ofString "_law_less") 3 2 f_law_less [] := by
  obtain ⟨f, fd, cdv, D⟩ := T.d_f_law_less
  refine kn_of (N := [(PySem.Str.ofString "one"), (PySem.Str.ofString "other")]) (ps := [(PySem.Str.ofString "one"), (PySem.Str.ofString "other")]) (k := 2) (fb := m_f_law_less) D sc_f_law_less rfl (fun _ _ _ _ _ _ us hl => match us, hl with | [_, _], _ => rfl) (fun A outer s H E on => ?_) fun _ _ _ _ => rfl
  exact dqs_one (dq_ret (de_kn (kn_f_law_plus T B) on (by decide) (da_cons (de_var (i := 0) rfl (.inl rfl)) (da_cons (de_tup (da_cons (de_neg (de_ix (de_var (i := 1) rfl (.inl rfl)) (de_int))) (da_cons (de_ix (de_var (i := 1) rfl (.inl rfl)) (de_int)) (da_nil)))) (da_nil)))))
/-! ### _law_drawn -/
def m_f_law_drawn : MS := evRet (evCall 2 f_law_least [] (evCons (ev2 opSub (evCall 2 f_law_roll [] (evCons (evVar 0) (evCons (evC (.int 61)) (evNil)))) (evC (.int 30))) (evCons (ev2 opAdd (evC (.int 1)) (evCall 2 f_law_roll [] (evCons (evVar 0) (evCons (evC (.int 12)) (evNil))))) (evNil))))
def f_law_drawn : MF := runB 1 m_f_law_drawn
theorem kn_f_law_drawn {P : Program} {w : World} {K : PySem.W.Frag} {mg : Str → Option Value} {base : Heap} {cs : Cs} {a0 : Option Addr} {lams : List LamI} (T : Facts K mg cs) (B : Bas base mg cs) : Kn P w K mg base (gOf cs a0 lams) (PySem.Str.ofString "_law_drawn") 2 1 f_law_drawn [] := by
  obtain ⟨f, fd, cdv, D⟩ := T.d_f_law_drawn
  refine kn_of (N := [(PySem.Str.ofString "dice")]) (ps := [(PySem.Str.ofString "dice")]) (k := 1) (fb := m_f_law_drawn) D sc_f_law_drawn rfl (fun _ _ _ _ _ _ us hl => match us, hl with | [_], _ => rfl) (fun A outer s H E on => ?_) fun _ _ _ _ => rfl
  exact dqs_one (dq_ret (de_kn (kn_f_law_least T B) on (by decide) (da_cons (de_bin od_sub (de_kn (kn_f_law_roll T B) on (by decide) (da_cons (de_var (i := 0) rfl (.inl rfl)) (da_cons (de_int) (da_nil)))) (de_int)) (da_cons (de_bin od_add (de_int) (de_kn (kn_f_law_roll T B) on (by decide) (da_cons (de_var (i := 0) rfl (.inl rfl)) (da_cons (de_int) (da_nil))))) (da_nil)))))
/-! ### _law_read -/
def m_f_law_read : MS := evThen (evSet 1 (ev2 mSplit (onStr (evVar 0)) (evC (.str (PySem.Str.ofString "/"))))) (evThen (evSet 2 (evIf (tB1 (ev2 opEq (evSl (ev2 ixD (evVar 1) (evC (.int 0))) (evO0) (evO1 (evC (.int 1)))) (evC (.str (PySem.Str.ofString "-"))))) (evSl (ev2 ixD (evVar 1) (evC (.int 0))) (evO1 (evC (.int 1))) (evO0)) (ev2 ixD (evVar 1) (evC (.int 0))))) (evThen (evSet 3 (ev2 opAdd (evFrz (evLst (evCons (evVar 2) (evNil)))) (evSl (evVar 1) (evO1 (evC (.int 1))) (evO0)))) (evThen (evIfS (tOrD (tB1 (ev2 opGt (evB bLen (evCons (evVar 1) (evNil))) (evC (.int 2)))) (tB1 (ev2 opNe (evFrz (evLc [6] (evSeq (evVar 3)) (tgName 6) (tOrD (tB1 (ev2 opEq (evVar 6) (evC (.str (PySem.Str.ofString ""))))) (tOrD (tB1 (ev2 opGt (evB bLen (evCons (evVar 6) (evNil))) (evC (.int 9)))) (tB1 (ev2 opNe (evFrz (evLc [7] (evStr (evVar 6)) (tgName 7) (tB1 (ev2 opNotIn (evVar 7) (evC (.str (PySem.Str.ofString "0123456789"))))) (evVar 7))) (evFrz (evLst (evNil))))))) (evVar 6))) (evFrz (evLst (evNil)))))) (evRet (evC .non)) (evSkip)) (evThen (evPar 4 5 (evCons (evB bInt (evCons (evVar 2) (evNil))) (evCons (evIf (tB1 (ev2 opEq (evB bLen (evCons (evVar 1) (evNil))) (evC (.int 2)))) (evB bInt (evCons (ev2 ixD (evVar 1) (evC (.int 1))) (evNil))) (evC (.int 1))) (evNil)))) (evRet (evIf (tB1 (ev2 opNe (evVar 5) (evC (.int 0)))) (evCall 2 f_law_least [] (evCons (evIf (tB1 (ev2 opEq (evSl (evVar 0) (evO0) (evO1 (evC (.int 1)))) (evC (.str (PySem.Str.ofString "-"))))) (ev1 evNeg (evVar 4)) (evVar 4)) (evCons (evVar 5) (evNil)))) (evC .non)))))))
def f_law_read : MF := runB 8 m_f_law_read
theorem kn_f_law_read {P : Program} {w : World} {K : PySem.W.Frag} {mg : Str → Option Value} {base : Heap} {cs : Cs} {a0 : Option Addr} {lams : List LamI} (T : Facts K mg cs) (B : Bas base mg cs) : Kn P w K mg base (gOf cs a0 lams) (PySem.Str.ofString "_law_read") 2 1 f_law_read [] := by
  obtain ⟨f, fd, cdv, D⟩ := T.d_f_law_read
  refine kn_of (N := [(PySem.Str.ofString "text"), (PySem.Str.ofString "parts"), (PySem.Str.ofString "first"), (PySem.Str.ofString "figures"), (PySem.Str.ofString "top"), (PySem.Str.ofString "bottom"), (PySem.Str.ofString "one"), (PySem.Str.ofString "sign")]) (ps := [(PySem.Str.ofString "text")]) (k := 1) (fb := m_f_law_read) D sc_f_law_read rfl (fun _ _ _ _ _ _ us hl => match us, hl with | [_], _ => rfl) (fun A outer s H E on => ?_) fun _ _ _ _ => rfl
  exact dqs_cons (dq_set (i := 1) sc_f_law_read.nd rfl (.inl rfl) (de_split (de_var (i := 0) rfl (.inl rfl)) (de_str))) (dqs_cons (dq_set (i := 2) sc_f_law_read.nd rfl (.inl rfl) (de_if (dt_cmp (od_eq on.un) (de_sl (de_ix (de_var (i := 1) rfl (.inl rfl)) (de_int)) (do_none) (do_some (de_int))) (de_str) rfl) (de_sl (de_ix (de_var (i := 1) rfl (.inl rfl)) (de_int)) (do_some (de_int)) (do_none)) (de_ix (de_var (i := 1) rfl (.inl rfl)) (de_int)))) (dqs_cons (dq_set (i := 3) sc_f_law_read.nd rfl (.inl rfl) (de_bin od_add (de_new (dn_lst (da_cons (de_var (i := 2) rfl (.inl rfl)) (da_nil)))) (de_sl (de_var (i := 1) rfl (.inl rfl)) (do_some (de_int)) (do_none)))) (dqs_cons (dq_if (dt_bool (dw_or (dt_cmp od_gt (de_blt cd_len rfl T.b_len rfl (da_cons (de_var (i := 1) rfl (.inl rfl)) (da_nil))) (de_int) rfl) (dw_or1 (dt_cmp (od_ne on.un) (de_new (dn_lc (own := [((PySem.Str.ofString "one"), 6)]) rfl sc_f_law_read.nd (di_seq (de_var (i := 3) rfl (.inl rfl))) (blk_of rfl) (fun _ _ _ _ _ => dg_name (i := 6) (vs := [6]) (by decide) sc_f_law_read.nd rfl (.inl rfl)) (fun _ _ _ _ _ => dts_one (dt_bool (dw_or (dt_cmp (od_eq (on.blk _ _ _ _ _).un) (de_var (i := 6) rfl (.inl rfl)) (de_str) rfl) (dw_or (dt_cmp od_gt (de_blt cd_len rfl T.b_len rfl (da_cons (de_var (i := 6) rfl (.inl rfl)) (da_nil))) (de_int) rfl) (dw_or1 (dt_cmp (od_ne (on.blk _ _ _ _ _).un) (de_new (dn_lc (own := [((PySem.Str.ofString "sign"), 7)]) rfl sc_f_law_read.nd (di_str (de_var (i := 6) rfl (.inl rfl))) (blk_of rfl) (fun _ _ _ _ _ => dg_name (i := 7) (vs := [7]) (by decide) sc_f_law_read.nd rfl (.inl rfl)) (fun _ _ _ _ _ => dts_one (dt_cmp (od_notIn ((on.blk _ _ _ _ _).blk _ _ _ _ _).un5) (de_var (i := 7) rfl (.inl rfl)) (de_str) rfl)) (fun _ _ _ _ _ => de_var (i := 7) rfl (.inl rfl)))) (de_new (dn_lst (da_nil))) rfl)))))) (fun _ _ _ _ _ => de_var (i := 6) rfl (.inl rfl)))) (de_new (dn_lst (da_nil))) rfl)))) (dqs_one (dq_ret (de_non))) (dqs_nil)) (dqs_cons (dq_par2 (i := 4) (j := 5) rfl sc_f_law_read.nd rfl rfl (by decide) rfl rfl (da_cons (de_bty cd_int rfl T.b_int rfl (da_cons (de_var (i := 2) rfl (.inl rfl)) (da_nil))) (da_cons (de_if (dt_cmp (od_eq on.un) (de_blt cd_len rfl T.b_len rfl (da_cons (de_var (i := 1) rfl (.inl rfl)) (da_nil))) (de_int) rfl) (de_bty cd_int rfl T.b_int rfl (da_cons (de_ix (de_var (i := 1) rfl (.inl rfl)) (de_int)) (da_nil))) (de_int)) (da_nil))) rfl) (dqs_one (dq_ret (de_if (dt_cmp (od_ne on.un) (de_var (i := 5) rfl (.inl rfl)) (de_int) rfl) (de_kn (kn_f_law_least T B) on (by decide) (da_cons (de_if (dt_cmp (od_eq on.un) (de_sl (de_var (i := 0) rfl (.inl rfl)) (do_none) (do_some (de_int))) (de_str) rfl) (de_neg (de_var (i := 4) rfl (.inl rfl))) (de_var (i := 4) rfl (.inl rfl))) (da_cons (de_var (i := 5) rfl (.inl rfl)) (da_nil)))) (de_non))))))))
/-! ### the law -/
def m_it : ME := evCall 2 f_law_rounds [] (evCons (evVar 0) (evCons (evC (.int 1)) (evNil)))
def ml_0 : ME := evCall 2 f_number [] (evCons (evC (.int 1)) (evCons (evC (.int 0)) (evNil)))
def ml_1 : ME := evCall 2 f_over [] (evCons (evTup (evCons (evC (.int 1)) (evCons (evC (.int 1)) (evNil)))) (evCons (evTup (evCons (evC (.int 0)) (evCons (evC (.int 1)) (evNil)))) (evNil)))
def ml_2 : ME := evCall 1 f_least_of [] (evCons (evFrz (evLst (evNil))) (evNil))
def ml_3 : ME := evCall 1 f_greatest_of [] (evCons (evFrz (evLst (evNil))) (evNil))
def ml_4 : ME := evCall 1 f_read [] (evCons (evC (.str (PySem.Str.ofString ""))) (evNil))
def ml_5 : ME := evCall 1 f_read [] (evCons (evC (.str (PySem.Str.ofString "1/0"))) (evNil))
def ml_6 : ME := evCall 1 f_read [] (evCons (evC (.str (PySem.Str.ofString "1/2/3"))) (evNil))
def ml_7 : ME := evCall 1 f_read [] (evCons (evC (.str (PySem.Str.ofString "1/-2"))) (evNil))
def ml_8 : ME := evCall 1 f_read [] (evCons (evC (.str (PySem.Str.ofString "1234567890"))) (evNil))
def L_f_law (n : Nat) : ME := match n with
  | 0 => ml_0
  | 1 => ml_1
  | 2 => ml_2
  | 3 => ml_3
  | 4 => ml_4
  | 5 => ml_5
  | 6 => ml_6
  | 7 => ml_7
  | 8 => ml_8
  | _ => fun _ => .stuck
def mb_0 : MS := evPar 2 3 (evCons (ev2 opSub (evCall 2 f_law_roll [] (evCons (evVar 1) (evCons (evC (.int 301)) (evNil)))) (evC (.int 150))) (evCons (ev2 opMul (ev2 opAdd (evC (.int 1)) (evCall 2 f_law_roll [] (evCons (evVar 1) (evCons (evC (.int 90)) (evNil))))) (ev2 ixD (evFrz (evLst (evCons (evC (.int 1)) (evCons (ev1 evNeg (evC (.int 1))) (evNil))))) (evCall 2 f_law_roll [] (evCons (evVar 1) (evCons (evC (.int 2)) (evNil)))))) (evNil)))
def mb_1 : MS := evIfS (tOrD (tB1 (ev2 opNe (evCall 2 f_number [] (evCons (evVar 2) (evCons (evVar 3) (evNil)))) (evCall 2 f_law_least [] (evCons (evVar 2) (evCons (evVar 3) (evNil)))))) (tB1 (ev2 opNe (evCall 2 f_number [.int 1] (evCons (evVar 2) (evNil))) (evTup (evCons (evVar 2) (evCons (evC (.int 1)) (evNil))))))) (evRet (evC (.bl false))) (evSkip)
def mb_2 : MS := evAsg (evTup (evCons (evCall 1 f_law_drawn [] (evCons (evVar 1) (evNil))) (evCons (evCall 1 f_law_drawn [] (evCons (evVar 1) (evNil))) (evNil)))) (tgTup 2 (tgCons (tgName 18) (tgCons (tgName 19) (tgNil))))
def mb_3 : MS := evIfS (tOrD (tB1 (ev2 opNe (evCall 2 f_plus [] (evCons (evVar 18) (evCons (evVar 19) (evNil)))) (evCall 2 f_law_plus [] (evCons (evVar 18) (evCons (evVar 19) (evNil)))))) (tB1 (ev2 opNe (evCall 2 f_minus [] (evCons (evVar 18) (evCons (evVar 19) (evNil)))) (evCall 2 f_law_less [] (evCons (evVar 18) (evCons (evVar 19) (evNil))))))) (evRet (evC (.bl false))) (evSkip)
def mb_4 : MS := evIfS (tB1 (ev2 opNe (evCall 2 f_times [] (evCons (evVar 18) (evCons (evVar 19) (evNil)))) (evCall 2 f_law_times [] (evCons (evVar 18) (evCons (evVar 19) (evNil)))))) (evRet (evC (.bl false))) (evSkip)
def mb_5 : MS := evSet 4 (evIf (tB1 (ev2 opNe (ev2 ixD (evVar 19) (evC (.int 0))) (evC (.int 0)))) (evCall 2 f_law_least [] (evCons (ev2 opMul (ev2 ixD (evVar 18) (evC (.int 0))) (ev2 ixD (evVar 19) (evC (.int 1)))) (evCons (ev2 opMul (ev2 ixD (evVar 18) (evC (.int 1))) (ev2 ixD (evVar 19) (evC (.int 0)))) (evNil)))) (evC (.str (PySem.Str.ofString "NumberError"))))
def mb_6 : MS := evSet 5 (ev2 opSub (ev2 opMul (ev2 ixD (evVar 18) (evC (.int 0))) (ev2 ixD (evVar 19) (evC (.int 1)))) (ev2 opMul (ev2 ixD (evVar 19) (evC (.int 0))) (ev2 ixD (evVar 18) (evC (.int 1)))))
def mb_7 : MS := evIfS (tB1 (ev2 opNe (evTold okErr (PySem.Str.ofString "NumberError") (evCall 2 f_over [] (evCons (evVar 18) (evCons (evVar 19) (evNil))))) (evVar 4))) (evRet (evC (.bl false))) (evSkip)
def mb_8 : MS := evIfS (tB1 (ev2 opNe (evCall 2 f_compared [] (evCons (evVar 18) (evCons (evVar 19) (evNil)))) (evIf (tB1 (ev2 opGt (evVar 5) (evC (.int 0)))) (evC (.int 1)) (evIf (tB1 (ev2 opEq (evVar 5) (evC (.int 0)))) (evC (.int 0)) (ev1 evNeg (evC (.int 1))))))) (evRet (evC (.bl false))) (evSkip)
def mb_9 : MS := evIfS (tB1 (ev2 opNe (evCall 1 f_sign_of [] (evCons (evVar 18) (evNil))) (evIf (tB1 (ev2 opGt (ev2 ixD (evVar 18) (evC (.int 0))) (evC (.int 0)))) (evC (.int 1)) (evIf (tB1 (ev2 opEq (ev2 ixD (evVar 18) (evC (.int 0))) (evC (.int 0)))) (evC (.int 0)) (ev1 evNeg (evC (.int 1))))))) (evRet (evC (.bl false))) (evSkip)
def mb_10 : MS := evAsg (evTup (evCons (evFrz (evLc [21] (evRng1 (evCons (evCall 2 f_law_roll [] (evCons (evVar 1) (evCons (evC (.int 6)) (evNil)))) (evNil))) (tgName 21) (evYes) (evCall 1 f_law_drawn [] (evCons (evVar 1) (evNil))))) (evCons (evTup (evCons (evC (.int 0)) (evCons (evC (.int 1)) (evNil)))) (evNil)))) (tgTup 2 (tgCons (tgName 20) (tgCons (tgName 6) (tgNil))))
def mb_11 : MS := evFor (evSeq (evVar 20)) (tgName 7) (evSet 6 (evCall 2 f_law_plus [] (evCons (evVar 6) (evCons (evVar 7) (evNil)))))
def mb_12 : MS := evOwn 8 (evLc [7] (evSeq (evVar 20)) (tgName 7) (tB1 (ev2 opEq (evFrz (evLc [22] (evSeq (evVar 20)) (tgName 22) (tB1 (ev2 opLt (ev2 opMul (ev2 ixD (evVar 22) (evC (.int 0))) (ev2 ixD (evVar 7) (evC (.int 1)))) (ev2 opMul (ev2 ixD (evVar 7) (evC (.int 0))) (ev2 ixD (evVar 22) (evC (.int 1)))))) (evC (.int 1)))) (evFrz (evLst (evNil))))) (evVar 7))
def mb_13 : MS := evOwn 9 (evLc [7] (evSeq (evVar 20)) (tgName 7) (tB1 (ev2 opEq (evFrz (evLc [22] (evSeq (evVar 20)) (tgName 22) (tB1 (ev2 opGt (ev2 opMul (ev2 ixD (evVar 22) (evC (.int 0))) (ev2 ixD (evVar 7) (evC (.int 1)))) (ev2 opMul (ev2 ixD (evVar 7) (evC (.int 0))) (ev2 ixD (evVar 22) (evC (.int 1)))))) (evC (.int 1)))) (evFrz (evLst (evNil))))) (evVar 7))
def mb_14 : MS := evIfS (tOrD (tB1 (ev2 opNe (evCall 1 f_total [] (evCons (evVar 20) (evNil))) (evVar 6))) (tOrD (tB1 (ev2 opNe (evTold okErr (PySem.Str.ofString "NumberError") (evCall 1 f_least_of [] (evCons (evVar 20) (evNil)))) (evIf (tB1 (ev2 opNe (evVar 8) (evFrz (evLst (evNil))))) (ev2 ixD (evVar 8) (evC (.int 0))) (evC (.str (PySem.Str.ofString "NumberError")))))) (tB1 (ev2 opNe (evTold okErr (PySem.Str.ofString "NumberError") (evCall 1 f_greatest_of [] (evCons (evVar 20) (evNil)))) (evIf (tB1 (ev2 opNe (evVar 9) (evFrz (evLst (evNil))))) (ev2 ixD (evVar 9) (evC (.int 0))) (evC (.str (PySem.Str.ofString "NumberError")))))))) (evRet (evC (.bl false))) (evSkip)
def mb_15 : MS := evSet 10 (ev2 opAdd (evB bStr (evCons (ev2 ixD (evVar 18) (evC (.int 0))) (evNil))) (evIf (tB1 (ev2 opNe (ev2 ixD (evVar 18) (evC (.int 1))) (evC (.int 1)))) (ev2 opAdd (evC (.str (PySem.Str.ofString "/"))) (evB bStr (evCons (ev2 ixD (evVar 18) (evC (.int 1))) (evNil)))) (evC (.str (PySem.Str.ofString "")))))
def mb_16 : MS := evIfS (tOrD (tB1 (ev2 opNe (evCall 1 f_shown [] (evCons (evVar 18) (evNil))) (evVar 10))) (tB1 (ev2 opNe (evCall 1 f_read [] (evCons (evVar 10) (evNil))) (evVar 18)))) (evRet (evC (.bl false))) (evSkip)
def mb_17 : MS := evIfS (tB1 (ev2 opNe (evCall 1 f_whole_below [] (evCons (evVar 18) (evNil))) (ev2 ixD (evFrz (evLc [21] (evRng2 (evCons (ev1 evNeg (evC (.int 40))) (evCons (evC (.int 41)) (evNil)))) (tgName 21) (tB1 (ev2 opLe (ev2 opMul (evVar 21) (ev2 ixD (evVar 18) (evC (.int 1)))) (ev2 ixD (evVar 18) (evC (.int 0))))) (evVar 21))) (ev2 opSub (evB bLen (evCons (evFrz (evLc [21] (evRng2 (evCons (ev1 evNeg (evC (.int 40))) (evCons (evC (.int 41)) (evNil)))) (tgName 21) (tB1 (ev2 opLe (ev2 opMul (evVar 21) (ev2 ixD (evVar 18) (evC (.int 1)))) (ev2 ixD (evVar 18) (evC (.int 0))))) (evVar 21))) (evNil))) (evC (.int 1)))))) (evRet (evC (.bl false))) (evSkip)
def mb_18 : MS := evSet 17 (ev2 mJoin (onStr (evC (.str (PySem.Str.ofString "")))) (evFrz (evLc [21] (evRng1 (evCons (evCall 2 f_law_roll [] (evCons (evVar 1) (evCons (evC (.int 7)) (evNil)))) (evNil))) (tgName 21) (evYes) (ev2 ixD (evC (.str (PySem.Str.ofString "0123-/ "))) (evCall 2 f_law_roll [] (evCons (evVar 1) (evCons (evC (.int 7)) (evNil))))))))
def mb_19 : MS := evSet 4 (evCall 1 f_law_read [] (evCons (evVar 17) (evNil)))
def mb_20 : MS := evIfS (tB1 (ev2 opNe (evTold okErr (PySem.Str.ofString "NumberError") (evCall 1 f_read [] (evCons (evVar 17) (evNil)))) (evIf (tB1 (ev2 opNotN (evVar 4) (evC .non))) (evVar 4) (evC (.str (PySem.Str.ofString "NumberError")))))) (evRet (evC (.bl false))) (evSkip)
def mb_21 : MS := evOwn 11 (evLc [23] (evRng1 (evCons (evC (.int 3)) (evNil))) (tgName 23) (evYes) (evFrz (evLc [21] (evRng1 (evCons (evC (.int 3)) (evNil))) (tgName 21) (evYes) (evCall 1 f_law_drawn [] (evCons (evVar 1) (evNil))))))
def mb_22 : MS := evSet 6 (evTup (evCons (evC (.int 0)) (evCons (evC (.int 1)) (evNil))))
def mb_23 : MS := evFor (evSeq (evFrz (evLst (evCons (evTup (evCons (evC (.int 0)) (evCons (evC (.int 1)) (evCons (evC (.int 2)) (evCons (evC (.int 1)) (evNil)))))) (evCons (evTup (evCons (evC (.int 1)) (evCons (evC (.int 2)) (evCons (evC (.int 0)) (evCons (evC (.int 1)) (evNil)))))) (evCons (evTup (evCons (evC (.int 2)) (evCons (evC (.int 0)) (evCons (evC (.int 1)) (evCons (evC (.int 1)) (evNil)))))) (evCons (evTup (evCons (evC (.int 0)) (evCons (evC (.int 2)) (evCons (evC (.int 1)) (evCons (ev1 evNeg (evC (.int 1))) (evNil)))))) (evCons (evTup (evCons (evC (.int 1)) (evCons (evC (.int 0)) (evCons (evC (.int 2)) (evCons (ev1 evNeg (evC (.int 1))) (evNil)))))) (evCons (evTup (evCons (evC (.int 2)) (evCons (evC (.int 1)) (evCons (evC (.int 0)) (evCons (ev1 evNeg (evC (.int 1))) (evNil)))))) (evNil)))))))))) (tgTup 4 (tgCons (tgName 12) (tgCons (tgName 13) (tgCons (tgName 14) (tgCons (tgName 15) (tgNil)))))) (evSet 6 (evCall 2 f_law_plus [] (evCons (evVar 6) (evCons (evCall 2 f_law_times [] (evCons (evTup (evCons (evVar 15) (evCons (evC (.int 1)) (evNil)))) (evCons (evCall 2 f_law_times [] (evCons (ev2 ixD (ev2 ixD (evVar 11) (evC (.int 0))) (evVar 12)) (evCons (evCall 2 f_law_times [] (evCons (ev2 ixD (ev2 ixD (evVar 11) (evC (.int 1))) (evVar 13)) (evCons (ev2 ixD (ev2 ixD (evVar 11) (evC (.int 2))) (evVar 14)) (evNil)))) (evNil)))) (evNil)))) (evNil)))))
def mb_24 : MS := evIfS (tB1 (ev2 opNe (evCall 3 f_three_by_three [] (evCons (ev2 ixD (evVar 11) (evC (.int 0))) (evCons (ev2 ixD (evVar 11) (evC (.int 1))) (evCons (ev2 ixD (evVar 11) (evC (.int 2))) (evNil))))) (evVar 6))) (evRet (evC (.bl false))) (evSkip)
def m_body : MS := evThen mb_0 ( evThen mb_1 ( evThen mb_2 ( evThen mb_3 ( evThen mb_4 ( evThen mb_5 ( evThen mb_6 ( evThen mb_7 ( evThen mb_8 ( evThen mb_9 ( evThen mb_10 ( evThen mb_11 ( evThen mb_12 ( evThen mb_13 ( evThen mb_14 ( evThen mb_15 ( evThen mb_16 ( evThen mb_17 ( evThen mb_18 ( evThen mb_19 ( evThen mb_20 ( evThen mb_21 ( evThen mb_22 ( evThen mb_23 (mb_24))))))))))))))))))))))))
def mr_0 : MS := evOwn 16 (evLst (evCons ((fun z => .ok (.lam 0) z)) (evCons ((fun z => .ok (.lam 1) z)) (evCons ((fun z => .ok (.lam 2) z)) (evCons ((fun z => .ok (.lam 3) z)) (evCons ((fun z => .ok (.lam 4) z)) (evCons ((fun z => .ok (.lam 5) z)) (evCons ((fun z => .ok (.lam 6) z)) (evCons ((fun z => .ok (.lam 7) z)) (evCons ((fun z => .ok (.lam 8) z)) (evNil)))))))))))
def mr_1 : MS := evIfS (tNotD (tAndD (tB1 (ev2 opEq (evFrz (evLc [24] (evSeq (evVar 16)) (tgName 24) (tB1 (ev2 opNe (evToldK okErr (PySem.Str.ofString "NumberError") 24 L_f_law) (evC (.str (PySem.Str.ofString "NumberError"))))) (evC (.int 1)))) (evFrz (evLst (evNil))))) (tB1 (ev2 opEq (evCall 1 f_read [] (evCons (evC (.str (PySem.Str.ofString "-2/6"))) (evNil))) (evTup (evCons (ev1 evNeg (evC (.int 1))) (evCons (evC (.int 3)) (evNil)))))))) (evRet (evC (.bl false))) (evSkip)
def mr_2 : MS := evRet (evAnd (ev2 opEq (evCall 1 f_shown [] (evCons (evTup (evCons (ev1 evNeg (evC (.int 1))) (evCons (evC (.int 3)) (evNil)))) (evNil))) (evC (.str (PySem.Str.ofString "-1/3")))) (evAnd (ev2 opEq (evCall 2 f_number [] (evCons (evC (.int 0)) (evCons (ev1 evNeg (evC (.int 7))) (evNil)))) (evTup (evCons (evC (.int 0)) (evCons (evC (.int 1)) (evNil))))) (ev2 opEq (evCall 1 f_whole_below [] (evCons (evTup (evCons (ev1 evNeg (evC (.int 1))) (evCons (evC (.int 2)) (evNil)))) (evNil))) (ev1 evNeg (evC (.int 1))))))
def m_rest : MS := evThen mr_0 ( evThen mr_1 (mr_2))
abbrev N_law : List Str := [(PySem.Str.ofString "script"), (PySem.Str.ofString "dice"), (PySem.Str.ofString "top"), (PySem.Str.ofString "bottom"), (PySem.Str.ofString "due"), (PySem.Str.ofString "far"), (PySem.Str.ofString "whole"), (PySem.Str.ofString "part"), (PySem.Str.ofString "low"), (PySem.Str.ofString "high"), (PySem.Str.ofString "text"), (PySem.Str.ofString "rows"), (PySem.Str.ofString "a"), (PySem.Str.ofString "b"), (PySem.Str.ofString "c"), (PySem.Str.ofString "sign"), (PySem.Str.ofString "bad"), (PySem.Str.ofString "drawn"), (PySem.Str.ofString "one"), (PySem.Str.ofString "other"), (PySem.Str.ofString "some"), (PySem.Str.ofString "k"), (PySem.Str.ofString "more"), (PySem.Str.ofString "j"), (PySem.Str.ofString "f")]
def lamsX (cells : List (Str × Addr)) : List LamI := kept_law.map (lamOf "law.<locals>.<lambda>" cells)
theorem ql_0 {X : Cx} {cs : Cs} {a0 : Option Addr} {cells : List (Str × Addr)} (T : Facts X.K X.mg cs) (B : Bas X.base X.mg cs) {A1 : Around} {outer1 : List Env} {s1 : Shared} {H1 : Hp} {E1 : XK} {f1 c1 : Addr} (on1 : On (LamX.lamCx X A1 outer1 s1 H1 E1 (lamScope 0) f1 c1) (fun cls d _ H => E1 cls d H) 4) : DE (LamX.lamCx X A1 outer1 s1 H1 E1 (lamScope 0) f1 c1) (gOf cs a0 (lamsX cells)) (fun cls d _ H => E1 cls d H) (lamBody 0) ml_0 := by
  exact de_kn (kn_f_number_2 T B) on1 (by decide) (da_cons (de_int) (da_cons (de_int) (da_nil)))
theorem ql_1 {X : Cx} {cs : Cs} {a0 : Option Addr} {cells : List (Str × Addr)} (T : Facts X.K X.mg cs) (B : Bas X.base X.mg cs) {A1 : Around} {outer1 : List Env} {s1 : Shared} {H1 : Hp} {E1 : XK} {f1 c1 : Addr} (on1 : On (LamX.lamCx X A1 outer1 s1 H1 E1 (lamScope 1) f1 c1) (fun cls d _ H => E1 cls d H) 4) : DE (LamX.lamCx X A1 outer1 s1 H1 E1 (lamScope 1) f1 c1) (gOf cs a0 (lamsX cells)) (fun cls d _ H => E1 cls d H) (lamBody 1) ml_1 := by
  exact de_kn (kn_f_over T B) on1 (by decide) (da_cons (de_tup (da_cons (de_int) (da_cons (de_int) (da_nil)))) (da_cons (de_tup (da_cons (de_int) (da_cons (de_int) (da_nil)))) (da_nil)))
theorem ql_2 {X : Cx} {cs : Cs} {a0 : Option Addr} {cells : List (Str × Addr)} (T : Facts X.K X.mg cs) (B : Bas X.base X.mg cs) {A1 : Around} {outer1 : List Env} {s1 : Shared} {H1 : Hp} {E1 : XK} {f1 c1 : Addr} (on1 : On (LamX.lamCx X A1 outer1 s1 H1 E1 (lamScope 2) f1 c1) (fun cls d _ H => E1 cls d H) 4) : DE (LamX.lamCx X A1 outer1 s1 H1 E1 (lamScope 2) f1 c1) (gOf cs a0 (lamsX cells)) (fun cls d _ H => E1 cls d H) (lamBody 2) ml_2 := by
  exact de_kn (kn_f_least_of T B) on1 (by decide) (da_cons (de_new (dn_lst (da_nil))) (da_nil))
theorem ql_3 {X : Cx} {cs : Cs} {a0 : Option Addr} {cells : List (Str × Addr)} (T : Facts X.K X.mg cs) (B : Bas X.base X.mg cs) {A1 : Around} {outer1 : List Env} {s1 : Shared} {H1 : Hp} {E1 : XK} {f1 c1 : Addr} (on1 : On (LamX.lamCx X A1 outer1 s1 H1 E1 (lamScope 3) f1 c1) (fun cls d _ H => E1 cls d H) 4) : DE (LamX.lamCx X A1 outer1 s1 H1 E1 (lamScope 3) f1 c1) (gOf cs a0 (lamsX cells)) (fun cls d _ H => E1 cls d H) (lamBody 3) ml_3 := by
  exact de_kn (kn_f_greatest_of T B) on1 (by decide) (da_cons (de_new (dn_lst (da_nil))) (da_nil))
theorem ql_4 {X : Cx} {cs : Cs} {a0 : Option Addr} {cells : List (Str × Addr)} (T : Facts X.K X.mg cs) (B : Bas X.base X.mg cs) {A1 : Around} {outer1 : List Env} {s1 : Shared} {H1 : Hp} {E1 : XK} {f1 c1 : Addr} (on1 : On (LamX.lamCx X A1 outer1 s1 H1 E1 (lamScope 4) f1 c1) (fun cls d _ H => E1 cls d H) 4) : DE (LamX.lamCx X A1 outer1 s1 H1 E1 (lamScope 4) f1 c1) (gOf cs a0 (lamsX cells)) (fun cls d _ H => E1 cls d H) (lamBody 4) ml_4 := by
  exact de_kn (kn_f_read T B) on1 (by decide) (da_cons (de_str) (da_nil))
theorem ql_5 {X : Cx} {cs : Cs} {a0 : Option Addr} {cells : List (Str × Addr)} (T : Facts X.K X.mg cs) (B : Bas X.base X.mg cs) {A1 : Around} {outer1 : List Env} {s1 : Shared} {H1 : Hp} {E1 : XK} {f1 c1 : Addr} (on1 : On (LamX.lamCx X A1 outer1 s1 H1 E1 (lamScope 5) f1 c1) (fun cls d _ H => E1 cls d H) 4) : DE (LamX.lamCx X A1 outer1 s1 H1 E1 (lamScope 5) f1 c1) (gOf cs a0 (lamsX cells)) (fun cls d _ H => E1 cls d H) (lamBody 5) ml_5 := by
  exact de_kn (kn_f_read T B) on1 (by decide) (da_cons (de_str) (da_nil))
theorem ql_6 {X : Cx} {cs : Cs} {a0 : Option Addr} {cells : List (Str × Addr)} (T : Facts X.K X.mg cs) (B : Bas X.base X.mg cs) {A1 : Around} {outer1 : List Env} {s1 : Shared} {H1 : Hp} {E1 : XK} {f1 c1 : Addr} (on1 : On (LamX.lamCx X A1 outer1 s1 H1 E1 (lamScope 6) f1 c1) (fun cls d _ H => E1 cls d H) 4) : DE (LamX.lamCx X A1 outer1 s1 H1 E1 (lamScope 6) f1 c1) (gOf cs a0 (lamsX cells)) (fun cls d _ H => E1 cls d H) (lamBody 6) ml_6 := by
  exact de_kn (kn_f_read T B) on1 (by decide) (da_cons (de_str) (da_nil))
theorem ql_7 {X : Cx} {cs : Cs} {a0 : Option Addr} {cells : List (Str × Addr)} (T : Facts X.K X.mg cs) (B : Bas X.base X.mg cs) {A1 : Around} {outer1 : List Env} {s1 : Shared} {H1 : Hp} {E1 : XK} {f1 c1 : Addr} (on1 : On (LamX.lamCx X A1 outer1 s1 H1 E1 (lamScope 7) f1 c1) (fun cls d _ H => E1 cls d H) 4) : DE (LamX.lamCx X A1 outer1 s1 H1 E1 (lamScope 7) f1 c1) (gOf cs a0 (lamsX cells)) (fun cls d _ H => E1 cls d H) (lamBody 7) ml_7 := by
  exact de_kn (kn_f_read T B) on1 (by decide) (da_cons (de_str) (da_nil))
theorem ql_8 {X : Cx} {cs : Cs} {a0 : Option Addr} {cells : List (Str × Addr)} (T : Facts X.K X.mg cs) (B : Bas X.base X.mg cs) {A1 : Around} {outer1 : List Env} {s1 : Shared} {H1 : Hp} {E1 : XK} {f1 c1 : Addr} (on1 : On (LamX.lamCx X A1 outer1 s1 H1 E1 (lamScope 8) f1 c1) (fun cls d _ H => E1 cls d H) 4) : DE (LamX.lamCx X A1 outer1 s1 H1 E1 (lamScope 8) f1 c1) (gOf cs a0 (lamsX cells)) (fun cls d _ H => E1 cls d H) (lamBody 8) ml_8 := by
  exact de_kn (kn_f_read T B) on1 (by decide) (da_cons (de_str) (da_nil))
theorem lams_f_law {X : Cx} {cs : Cs} {a0 : Option Addr} {cells : List (Str × Addr)} (T : Facts X.K X.mg cs) (B : Bas X.base X.mg cs) (hq : "law.<locals>.<lambda>" = X.env.qual ++ "<lambda>") : ∀ (n : Nat) (li : LamI), (gOf cs a0 (lamsX cells)).lams[n]? = some li → LamX.LamS X.env.scope li.scope ∧ li.clo = cloFrom X.env.cells li.scope.names [] ∧ li.qual = X.env.qual ++ "<lambda>" ∧ (∀ (pm cv ctv : Value), bindArgs (PySem.W.kla_fn "<lambda>" li.qual li.params li.body li.scope li.clo pm cv ctv) ⟨[], []⟩ = pure []) ∧
      ∀ (A1 : Around) (outer1 : List Env) (s1 : Shared) (H1 : Hp) (E1 : XK) (f1 c1 : Addr), On (LamX.lamCx X A1 outer1 s1 H1 E1 li.scope f1 c1) (fun cls d _ H => E1 cls d H) 4 → DE (LamX.lamCx X A1 outer1 s1 H1 E1 li.scope f1 c1) (gOf cs a0 (lamsX cells)) (fun cls d _ H => E1 cls d H) li.body (L_f_law n) := by
  intro n li h
  match n, h with
  | 0, h =>
    obtain rfl := Option.some.inj h
    exact ⟨LamX.lamS_by rfl, rfl, hq, fun _ _ _ => rfl, fun _ _ _ _ _ _ _ on1 => ql_0 T B on1⟩
  | 1, h =>
    obtain rfl := Option.some.inj h
    exact ⟨LamX.lamS_by rfl, rfl, hq, fun _ _ _ => rfl, fun _ _ _ _ _ _ _ on1 => ql_1 T B on1⟩
  | 2, h =>
    obtain rfl := Option.some.inj h
    exact ⟨LamX.lamS_by rfl, rfl, hq, fun _ _ _ => rfl, fun _ _ _ _ _ _ _ on1 => ql_2 T B on1⟩
  | 3, h =>
    obtain rfl := Option.some.inj h
    exact ⟨LamX.lamS_by rfl, rfl, hq, fun _ _ _ => rfl, fun _ _ _ _ _ _ _ on1 => ql_3 T B on1⟩
  | 4, h =>
    obtain rfl := Option.some.inj h
    exact ⟨LamX.lamS_by rfl, rfl, hq, fun _ _ _ => rfl, fun _ _ _ _ _ _ _ on1 => ql_4 T B on1⟩
  | 5, h =>
    obtain rfl := Option.some.inj h
    exact ⟨LamX.lamS_by rfl, rfl, hq, fun _ _ _ => rfl, fun _ _ _ _ _ _ _ on1 => ql_5 T B on1⟩
  | 6, h =>
    obtain rfl := Option.some.inj h
    exact ⟨LamX.lamS_by rfl, rfl, hq, fun _ _ _ => rfl, fun _ _ _ _ _ _ _ on1 => ql_6 T B on1⟩
  | 7, h =>
    obtain rfl := Option.some.inj h
    exact ⟨LamX.lamS_by rfl, rfl, hq, fun _ _ _ => rfl, fun _ _ _ _ _ _ _ on1 => ql_7 T B on1⟩
  | 8, h =>
    obtain rfl := Option.some.inj h
    exact ⟨LamX.lamS_by rfl, rfl, hq, fun _ _ _ => rfl, fun _ _ _ _ _ _ _ on1 => ql_8 T B on1⟩
  | n + 9, h => exact absurd h (by rintro ⟨⟩)
theorem qb_0 {P : Program} {w : World} {K : PySem.W.Frag} {mg : Str → Option Value} {base : Heap} {cs : Cs} {f : Addr} {A : Around} {outer : List Env} {s : Shared} {H : Hp} {E : XK} {q : Addr} (T : Facts K mg cs) (B : Bas base mg cs) (on : On (cxOf (L2.CX P w) P w K mg base N_law (PySem.Str.ofString "law") (defScope s_f_law) f (.ref cs.c_f_law) A outer s H E) (fun cls d _ H => E cls d H) 6) : DQ (cxOf (L2.CX P w) P w K mg base N_law (PySem.Str.ofString "law") (defScope s_f_law) f (.ref cs.c_f_law) A outer s H E) (gOf cs (some q) (lamsX (cxOf (L2.CX P w) P w K mg base N_law (PySem.Str.ofString "law") (defScope s_f_law) f (.ref cs.c_f_law) A outer s H E).env.cells)) (fun cls d _ H => E cls d H) (bst 0) mb_0 := by
  exact dq_par2 (i := 2) (j := 3) rfl sc_f_law.nd rfl rfl (by decide) rfl rfl (da_cons (de_bin od_sub (de_kn (kn_f_law_roll T B) on (by decide) (da_cons (de_var (i := 1) rfl (.inr (.inl rfl))) (da_cons (de_int) (da_nil)))) (de_int)) (da_cons (de_bin od_mul (de_bin od_add (de_int) (de_kn (kn_f_law_roll T B) on (by decide) (da_cons (de_var (i := 1) rfl (.inr (.inl rfl))) (da_cons (de_int) (da_nil))))) (de_ix (de_new (dn_lst (da_cons (de_int) (da_cons (de_neg (de_int)) (da_nil))))) (de_kn (kn_f_law_roll T B) on (by decide) (da_cons (de_var (i := 1) rfl (.inr (.inl rfl))) (da_cons (de_int) (da_nil)))))) (da_nil))) rfl
theorem qb_1 {P : Program} {w : World} {K : PySem.W.Frag} {mg : Str → Option Value} {base : Heap} {cs : Cs} {f : Addr} {A : Around} {outer : List Env} {s : Shared} {H : Hp} {E : XK} {q : Addr} (T : Facts K mg cs) (B : Bas base mg cs) (on : On (cxOf (L2.CX P w) P w K mg base N_law (PySem.Str.ofString "law") (defScope s_f_law) f (.ref cs.c_f_law) A outer s H E) (fun cls d _ H => E cls d H) 6) : DQ (cxOf (L2.CX P w) P w K mg base N_law (PySem.Str.ofString "law") (defScope s_f_law) f (.ref cs.c_f_law) A outer s H E) (gOf cs (some q) (lamsX (cxOf (L2.CX P w) P w K mg base N_law (PySem.Str.ofString "law") (defScope s_f_law) f (.ref cs.c_f_law) A outer s H E).env.cells)) (fun cls d _ H => E cls d H) (bst 1) mb_1 := by
  exact dq_if (dt_bool (dw_or (dt_cmp (od_ne on.un) (de_kn (kn_f_number_2 T B) on (by decide) (da_cons (de_var (i := 2) rfl (.inl rfl)) (da_cons (de_var (i := 3) rfl (.inl rfl)) (da_nil)))) (de_kn (kn_f_law_least T B) on (by decide) (da_cons (de_var (i := 2) rfl (.inl rfl)) (da_cons (de_var (i := 3) rfl (.inl rfl)) (da_nil)))) rfl) (dw_or1 (dt_cmp (od_ne on.un) (de_kn (kn_f_number_1 T B) on (by decide) (da_cons (de_var (i := 2) rfl (.inl rfl)) (da_nil))) (de_tup (da_cons (de_var (i := 2) rfl (.inl rfl)) (da_cons (de_int) (da_nil)))) rfl)))) (dqs_one (dq_ret (de_bl))) (dqs_nil)
theorem qb_2 {P : Program} {w : World} {K : PySem.W.Frag} {mg : Str → Option Value} {base : Heap} {cs : Cs} {f : Addr} {A : Around} {outer : List Env} {s : Shared} {H : Hp} {E : XK} {q : Addr} (T : Facts K mg cs) (B : Bas base mg cs) (on : On (cxOf (L2.CX P w) P w K mg base N_law (PySem.Str.ofString "law") (defScope s_f_law) f (.ref cs.c_f_law) A outer s H E) (fun cls d _ H => E cls d H) 6) : DQ (cxOf (L2.CX P w) P w K mg base N_law (PySem.Str.ofString "law") (defScope s_f_law) f (.ref cs.c_f_law) A outer s H E) (gOf cs (some q) (lamsX (cxOf (L2.CX P w) P w K mg base N_law (PySem.Str.ofString "law") (defScope s_f_law) f (.ref cs.c_f_law) A outer s H E).env.cells)) (fun cls d _ H => E cls d H) (bst 2) mb_2 := by
  exact dq_asg (de_tup (da_cons (de_kn (kn_f_law_drawn T B) on (by decide) (da_cons (de_var (i := 1) rfl (.inr (.inl rfl))) (da_nil))) (da_cons (de_kn (kn_f_law_drawn T B) on (by decide) (da_cons (de_var (i := 1) rfl (.inr (.inl rfl))) (da_nil))) (da_nil)))) (dg_tup rfl (dgs_cons (dg_name (i := 18) (vs := [18, 19]) (by decide) sc_f_law.nd rfl (.inr rfl)) (dgs_cons (dg_name (i := 19) (vs := [18, 19]) (by decide) sc_f_law.nd rfl (.inr rfl)) (dgs_nil))))
theorem qb_3 {P : Program} {w : World} {K : PySem.W.Frag} {mg : Str → Option Value} {base : Heap} {cs : Cs} {f : Addr} {A : Around} {outer : List Env} {s : Shared} {H : Hp} {E : XK} {q : Addr} (T : Facts K mg cs) (B : Bas base mg cs) (on : On (cxOf (L2.CX P w) P w K mg base N_law (PySem.Str.ofString "law") (defScope s_f_law) f (.ref cs.c_f_law) A outer s H E) (fun cls d _ H => E cls d H) 6) : DQ (cxOf (L2.CX P w) P w K mg base N_law (PySem.Str.ofString "law") (defScope s_f_law) f (.ref cs.c_f_law) A outer s H E) (gOf cs (some q) (lamsX (cxOf (L2.CX P w) P w K mg base N_law (PySem.Str.ofString "law") (defScope s_f_law) f (.ref cs.c_f_law) A outer s H E).env.cells)) (fun cls d _ H => E cls d H) (bst 3) mb_3 := by
  exact dq_if (dt_bool (dw_or (dt_cmp (od_ne on.un) (de_kn (kn_f_plus T B) on (by decide) (da_cons (de_var (i := 18) rfl (.inr (.inl rfl))) (da_cons (de_var (i := 19) rfl (.inr (.inl rfl))) (da_nil)))) (de_kn (kn_f_law_plus T B) on (by decide) (da_cons (de_var (i := 18) rfl (.inr (.inl rfl))) (da_cons (de_var (i := 19) rfl (.inr (.inl rfl))) (da_nil)))) rfl) (dw_or1 (dt_cmp (od_ne on.un) (de_kn (kn_f_minus T B) on (by decide) (da_cons (de_var (i := 18) rfl (.inr (.inl rfl))) (da_cons (de_var (i := 19) rfl (.inr (.inl rfl))) (da_nil)))) (de_kn (kn_f_law_less T B) on (by decide) (da_cons (de_var (i := 18) rfl (.inr (.inl rfl))) (da_cons (de_var (i := 19) rfl (.inr (.inl rfl))) (da_nil)))) rfl)))) (dqs_one (dq_ret (de_bl))) (dqs_nil)
theorem qb_4 {P : Program} {w : World} {K : PySem.W.Frag} {mg : Str → Option Value} {base : Heap} {cs : Cs} {f : Addr} {A : Around} {outer : List Env} {s : Shared} {H : Hp} {E : XK} {q : Addr} (T : Facts K mg cs) (B : Bas base mg cs) (on : On (cxOf (L2.CX P w) P w K mg base N_law (PySem.Str.ofString "law") (defScope s_f_law) f (.ref cs.c_f_law) A outer s H E) (fun cls d _ H => E cls d H) 6) : DQ (cxOf (L2.CX P w) P w K mg base N_law (PySem.Str.ofString "law") (defScope s_f_law) f (.ref cs.c_f_law) A outer s H E) (gOf cs (some q) (lamsX (cxOf (L2.CX P w) P w K mg base N_law (PySem.Str.ofString "law") (defScope s_f_law) f (.ref cs.c_f_law) A outer s H E).env.cells)) (fun cls d _ H => E cls d H) (bst 4) mb_4 := by
  exact dq_if (dt_cmp (od_ne on.un) (de_kn (kn_f_times T B) on (by decide) (da_cons (de_var (i := 18) rfl (.inr (.inl rfl))) (da_cons (de_var (i := 19) rfl (.inr (.inl rfl))) (da_nil)))) (de_kn (kn_f_law_times T B) on (by decide) (da_cons (de_var (i := 18) rfl (.inr (.inl rfl))) (da_cons (de_var (i := 19) rfl (.inr (.inl rfl))) (da_nil)))) rfl) (dqs_one (dq_ret (de_bl))) (dqs_nil)
theorem qb_5 {P : Program} {w : World} {K : PySem.W.Frag} {mg : Str → Option Value} {base : Heap} {cs : Cs} {f : Addr} {A : Around} {outer : List Env} {s : Shared} {H : Hp} {E : XK} {q : Addr} (T : Facts K mg cs) (B : Bas base mg cs) (on : On (cxOf (L2.CX P w) P w K mg base N_law (PySem.Str.ofString "law") (defScope s_f_law) f (.ref cs.c_f_law) A outer s H E) (fun cls d _ H => E cls d H) 6) : DQ (cxOf (L2.CX P w) P w K mg base N_law (PySem.Str.ofString "law") (defScope s_f_law) f (.ref cs.c_f_law) A outer s H E) (gOf cs (some q) (lamsX (cxOf (L2.CX P w) P w K mg base N_law (PySem.Str.ofString "law") (defScope s_f_law) f (.ref cs.c_f_law) A outer s H E).env.cells)) (fun cls d _ H => E cls d H) (bst 5) mb_5 := by
  exact dq_set (i := 4) sc_f_law.nd rfl (.inl rfl) (de_if (dt_cmp (od_ne on.un) (de_ix (de_var (i := 19) rfl (.inr (.inl rfl))) (de_int)) (de_int) rfl) (de_kn (kn_f_law_least T B) on (by decide) (da_cons (de_bin od_mul (de_ix (de_var (i := 18) rfl (.inr (.inl rfl))) (de_int)) (de_ix (de_var (i := 19) rfl (.inr (.inl rfl))) (de_int))) (da_cons (de_bin od_mul (de_ix (de_var (i := 18) rfl (.inr (.inl rfl))) (de_int)) (de_ix (de_var (i := 19) rfl (.inr (.inl rfl))) (de_int))) (da_nil)))) (de_str))
theorem qb_6 {P : Program} {w : World} {K : PySem.W.Frag} {mg : Str → Option Value} {base : Heap} {cs : Cs} {f : Addr} {A : Around} {outer : List Env} {s : Shared} {H : Hp} {E : XK} {q : Addr} (T : Facts K mg cs) (B : Bas base mg cs) (on : On (cxOf (L2.CX P w) P w K mg base N_law (PySem.Str.ofString "law") (defScope s_f_law) f (.ref cs.c_f_law) A outer s H E) (fun cls d _ H => E cls d H) 6) : DQ (cxOf (L2.CX P w) P w K mg base N_law (PySem.Str.ofString "law") (defScope s_f_law) f (.ref cs.c_f_law) A outer s H E) (gOf cs (some q) (lamsX (cxOf (L2.CX P w) P w K mg base N_law (PySem.Str.ofString "law") (defScope s_f_law) f (.ref cs.c_f_law) A outer s H E).env.cells)) (fun cls d _ H => E cls d H) (bst 6) mb_6 := by
  exact dq_set (i := 5) sc_f_law.nd rfl (.inl rfl) (de_bin od_sub (de_bin od_mul (de_ix (de_var (i := 18) rfl (.inr (.inl rfl))) (de_int)) (de_ix (de_var (i := 19) rfl (.inr (.inl rfl))) (de_int))) (de_bin od_mul (de_ix (de_var (i := 19) rfl (.inr (.inl rfl))) (de_int)) (de_ix (de_var (i := 18) rfl (.inr (.inl rfl))) (de_int))))
theorem qb_7 {P : Program} {w : World} {K : PySem.W.Frag} {mg : Str → Option Value} {base : Heap} {cs : Cs} {f : Addr} {A : Around} {outer : List Env} {s : Shared} {H : Hp} {E : XK} {q : Addr} (T : Facts K mg cs) (B : Bas base mg cs) (on : On (cxOf (L2.CX P w) P w K mg base N_law (PySem.Str.ofString "law") (defScope s_f_law) f (.ref cs.c_f_law) A outer s H E) (fun cls d _ H => E cls d H) 6) : DQ (cxOf (L2.CX P w) P w K mg base N_law (PySem.Str.ofString "law") (defScope s_f_law) f (.ref cs.c_f_law) A outer s H E) (gOf cs (some q) (lamsX (cxOf (L2.CX P w) P w K mg base N_law (PySem.Str.ofString "law") (defScope s_f_law) f (.ref cs.c_f_law) A outer s H E).env.cells)) (fun cls d _ H => E cls d H) (bst 7) mb_7 := by
  exact dq_if (dt_cmp (od_ne on.un) (de_told (k := 2) (told_k T) (on.up (by decide)) B.f_law (ltok_f_law T) rfl (LamX.lamS_by rfl) rfl (fun _ _ _ _ _ => rfl) (fun _ _ _ _ _ _ _ on1 => de_kn (kn_f_over T B) on1 (by decide) (da_cons (de_var (i := 18) rfl (.inr (.inr rfl))) (da_cons (de_var (i := 19) rfl (.inr (.inr rfl))) (da_nil))))) (de_var (i := 4) rfl (.inl rfl)) rfl) (dqs_one (dq_ret (de_bl))) (dqs_nil)
theorem qb_8 {P : Program} {w : World} {K : PySem.W.Frag} {mg : Str → Option Value} {base : Heap} {cs : Cs} {f : Addr} {A : Around} {outer : List Env} {s : Shared} {H : Hp} {E : XK} {q : Addr} (T : Facts K mg cs) (B : Bas base mg cs) (on : On (cxOf (L2.CX P w) P w K mg base N_law (PySem.Str.ofString "law") (defScope s_f_law) f (.ref cs.c_f_law) A outer s H E) (fun cls d _ H => E cls d H) 6) : DQ (cxOf (L2.CX P w) P w K mg base N_law (PySem.Str.ofString "law") (defScope s_f_law) f (.ref cs.c_f_law) A outer s H E) (gOf cs (some q) (lamsX (cxOf (L2.CX P w) P w K mg base N_law (PySem.Str.ofString "law") (defScope s_f_law) f (.ref cs.c_f_law) A outer s H E).env.cells)) (fun cls d _ H => E cls d H) (bst 8) mb_8 := by
  exact dq_if (dt_cmp (od_ne on.un) (de_kn (kn_f_compared T B) on (by decide) (da_cons (de_var (i := 18) rfl (.inr (.inl rfl))) (da_cons (de_var (i := 19) rfl (.inr (.inl rfl))) (da_nil)))) (de_if (dt_cmp od_gt (de_var (i := 5) rfl (.inl rfl)) (de_int) rfl) (de_int) (de_if (dt_cmp (od_eq on.un) (de_var (i := 5) rfl (.inl rfl)) (de_int) rfl) (de_int) (de_neg (de_int)))) rfl) (dqs_one (dq_ret (de_bl))) (dqs_nil)
theorem qb_9 {P : Program} {w : World} {K : PySem.W.Frag} {mg : Str → Option Value} {base : Heap} {cs : Cs} {f : Addr} {A : Around} {outer : List Env} {s : Shared} {H : Hp} {E : XK} {q : Addr} (T : Facts K mg cs) (B : Bas base mg cs) (on : On (cxOf (L2.CX P w) P w K mg base N_law (PySem.Str.ofString "law") (defScope s_f_law) f (.ref cs.c_f_law) A outer s H E) (fun cls d _ H => E cls d H) 6) : DQ (cxOf (L2.CX P w) P w K mg base N_law (PySem.Str.ofString "law") (defScope s_f_law) f (.ref cs.c_f_law) A outer s H E) (gOf cs (some q) (lamsX (cxOf (L2.CX P w) P w K mg base N_law (PySem.Str.ofString "law") (defScope s_f_law) f (.ref cs.c_f_law) A outer s H E).env.cells)) (fun cls d _ H => E cls d H) (bst 9) mb_9 := by
  exact dq_if (dt_cmp (od_ne on.un) (de_kn (kn_f_sign_of T B) on (by decide) (da_cons (de_var (i := 18) rfl (.inr (.inl rfl))) (da_nil))) (de_if (dt_cmp od_gt (de_ix (de_var (i := 18) rfl (.inr (.inl rfl))) (de_int)) (de_int) rfl) (de_int) (de_if (dt_cmp (od_eq on.un) (de_ix (de_var (i := 18) rfl (.inr (.inl rfl))) (de_int)) (de_int) rfl) (de_int) (de_neg (de_int)))) rfl) (dqs_one (dq_ret (de_bl))) (dqs_nil)
theorem qb_10 {P : Program} {w : World} {K : PySem.W.Frag} {mg : Str → Option Value} {base : Heap} {cs : Cs} {f : Addr} {A : Around} {outer : List Env} {s : Shared} {H : Hp} {E : XK} {q : Addr} (T : Facts K mg cs) (B : Bas base mg cs) (on : On (cxOf (L2.CX P w) P w K mg base N_law (PySem.Str.ofString "law") (defScope s_f_law) f (.ref cs.c_f_law) A outer s H E) (fun cls d _ H => E cls d H) 6) : DQ (cxOf (L2.CX P w) P w K mg base N_law (PySem.Str.ofString "law") (defScope s_f_law) f (.ref cs.c_f_law) A outer s H E) (gOf cs (some q) (lamsX (cxOf (L2.CX P w) P w K mg base N_law (PySem.Str.ofString "law") (defScope s_f_law) f (.ref cs.c_f_law) A outer s H E).env.cells)) (fun cls d _ H => E cls d H) (bst 10) mb_10 := by
  exact dq_asg (de_tup (da_cons (de_new (dn_lc (own := [((PySem.Str.ofString "k"), 21)]) rfl sc_f_law.nd (di_range1 rfl T.b_range (da_cons (de_kn (kn_f_law_roll T B) on (by decide) (da_cons (de_var (i := 1) rfl (.inr (.inl rfl))) (da_cons (de_int) (da_nil)))) (da_nil))) (blk_of rfl) (fun _ _ _ _ _ => dg_name (i := 21) (vs := [21]) (by decide) sc_f_law.nd rfl (.inl rfl)) (fun _ _ _ _ _ => dts_nil) (fun _ _ _ _ _ => de_kn (kn_f_law_drawn T B) (on.blk _ _ _ _ _) (by decide) (da_cons (de_var (i := 1) rfl (.inr (.inl rfl))) (da_nil))))) (da_cons (de_tup (da_cons (de_int) (da_cons (de_int) (da_nil)))) (da_nil)))) (dg_tup rfl (dgs_cons (dg_name (i := 20) (vs := [20, 6]) (by decide) sc_f_law.nd rfl (.inr rfl)) (dgs_cons (dg_name (i := 6) (vs := [20, 6]) (by decide) sc_f_law.nd rfl (.inl rfl)) (dgs_nil))))
theorem qb_11 {P : Program} {w : World} {K : PySem.W.Frag} {mg : Str → Option Value} {base : Heap} {cs : Cs} {f : Addr} {A : Around} {outer : List Env} {s : Shared} {H : Hp} {E : XK} {q : Addr} (T : Facts K mg cs) (B : Bas base mg cs) (on : On (cxOf (L2.CX P w) P w K mg base N_law (PySem.Str.ofString "law") (defScope s_f_law) f (.ref cs.c_f_law) A outer s H E) (fun cls d _ H => E cls d H) 6) : DQ (cxOf (L2.CX P w) P w K mg base N_law (PySem.Str.ofString "law") (defScope s_f_law) f (.ref cs.c_f_law) A outer s H E) (gOf cs (some q) (lamsX (cxOf (L2.CX P w) P w K mg base N_law (PySem.Str.ofString "law") (defScope s_f_law) f (.ref cs.c_f_law) A outer s H E).env.cells)) (fun cls d _ H => E cls d H) (bst 11) mb_11 := by
  exact dq_for on.passes rfl (di_seq (de_var (i := 20) rfl (.inr (.inl rfl)))) (dg_name (i := 7) (vs := [7]) (by decide) sc_f_law.nd rfl (.inl rfl)) (dqs_one (dq_set (i := 6) sc_f_law.nd rfl (.inl rfl) (de_kn (kn_f_law_plus T B) on (by decide) (da_cons (de_var (i := 6) rfl (.inl rfl)) (da_cons (de_var (i := 7) rfl (.inl rfl)) (da_nil))))))
theorem qb_12 {P : Program} {w : World} {K : PySem.W.Frag} {mg : Str → Option Value} {base : Heap} {cs : Cs} {f : Addr} {A : Around} {outer : List Env} {s : Shared} {H : Hp} {E : XK} {q : Addr} (T : Facts K mg cs) (B : Bas base mg cs) (on : On (cxOf (L2.CX P w) P w K mg base N_law (PySem.Str.ofString "law") (defScope s_f_law) f (.ref cs.c_f_law) A outer s H E) (fun cls d _ H => E cls d H) 6) : DQ (cxOf (L2.CX P w) P w K mg base N_law (PySem.Str.ofString "law") (defScope s_f_law) f (.ref cs.c_f_law) A outer s H E) (gOf cs (some q) (lamsX (cxOf (L2.CX P w) P w K mg base N_law (PySem.Str.ofString "law") (defScope s_f_law) f (.ref cs.c_f_law) A outer s H E).env.cells)) (fun cls d _ H => E cls d H) (bst 12) mb_12 := by
  exact dq_setLc (i := 8) (own := [((PySem.Str.ofString "part"), 7)]) rfl sc_f_law.nd rfl rfl rfl (di_seq (de_var (i := 20) rfl (.inr (.inl rfl)))) (blk_of rfl) (fun _ _ _ _ _ => dg_name (i := 7) (vs := [7]) (by decide) sc_f_law.nd rfl (.inr rfl)) (fun _ _ _ _ _ => dts_one (dt_cmp (od_eq (on.blk _ _ _ _ _).un) (de_new (dn_lc (own := [((PySem.Str.ofString "more"), 22)]) rfl sc_f_law.nd (di_seq (de_var (i := 20) rfl (.inr (.inl rfl)))) (blk_of rfl) (fun _ _ _ _ _ => dg_name (i := 22) (vs := [22]) (by decide) sc_f_law.nd rfl (.inl rfl)) (fun _ _ _ _ _ => dts_one (dt_cmp od_lt (de_bin od_mul (de_ix (de_var (i := 22) rfl (.inl rfl)) (de_int)) (de_ix (de_var (i := 7) rfl (.inr (.inl rfl))) (de_int))) (de_bin od_mul (de_ix (de_var (i := 7) rfl (.inr (.inl rfl))) (de_int)) (de_ix (de_var (i := 22) rfl (.inl rfl)) (de_int))) rfl)) (fun _ _ _ _ _ => de_int))) (de_new (dn_lst (da_nil))) rfl)) (fun _ _ _ _ _ => de_var (i := 7) rfl (.inr (.inl rfl)))
theorem qb_13 {P : Program} {w : World} {K : PySem.W.Frag} {mg : Str → Option Value} {base : Heap} {cs : Cs} {f : Addr} {A : Around} {outer : List Env} {s : Shared} {H : Hp} {E : XK} {q : Addr} (T : Facts K mg cs) (B : Bas base mg cs) (on : On (cxOf (L2.CX P w) P w K mg base N_law (PySem.Str.ofString "law") (defScope s_f_law) f (.ref cs.c_f_law) A outer s H E) (fun cls d _ H => E cls d H) 6) : DQ (cxOf (L2.CX P w) P w K mg base N_law (PySem.Str.ofString "law") (defScope s_f_law) f (.ref cs.c_f_law) A outer s H E) (gOf cs (some q) (lamsX (cxOf (L2.CX P w) P w K mg base N_law (PySem.Str.ofString "law") (defScope s_f_law) f (.ref cs.c_f_law) A outer s H E).env.cells)) (fun cls d _ H => E cls d H) (bst 13) mb_13 := by
  exact dq_setLc (i := 9) (own := [((PySem.Str.ofString "part"), 7)]) rfl sc_f_law.nd rfl rfl rfl (di_seq (de_var (i := 20) rfl (.inr (.inl rfl)))) (blk_of rfl) (fun _ _ _ _ _ => dg_name (i := 7) (vs := [7]) (by decide) sc_f_law.nd rfl (.inr rfl)) (fun _ _ _ _ _ => dts_one (dt_cmp (od_eq (on.blk _ _ _ _ _).un) (de_new (dn_lc (own := [((PySem.Str.ofString "more"), 22)]) rfl sc_f_law.nd (di_seq (de_var (i := 20) rfl (.inr (.inl rfl)))) (blk_of rfl) (fun _ _ _ _ _ => dg_name (i := 22) (vs := [22]) (by decide) sc_f_law.nd rfl (.inl rfl)) (fun _ _ _ _ _ => dts_one (dt_cmp od_gt (de_bin od_mul (de_ix (de_var (i := 22) rfl (.inl rfl)) (de_int)) (de_ix (de_var (i := 7) rfl (.inr (.inl rfl))) (de_int))) (de_bin od_mul (de_ix (de_var (i := 7) rfl (.inr (.inl rfl))) (de_int)) (de_ix (de_var (i := 22) rfl (.inl rfl)) (de_int))) rfl)) (fun _ _ _ _ _ => de_int))) (de_new (dn_lst (da_nil))) rfl)) (fun _ _ _ _ _ => de_var (i := 7) rfl (.inr (.inl rfl)))
theorem qb_14 {P : Program} {w : World} {K : PySem.W.Frag} {mg : Str → Option Value} {base : Heap} {cs : Cs} {f : Addr} {A : Around} {outer : List Env} {s : Shared} {H : Hp} {E : XK} {q : Addr} (T : Facts K mg cs) (B : Bas base mg cs) (on : On (cxOf (L2.CX P w) P w K mg base N_law (PySem.Str.ofString "law") (defScope s_f_law) f (.ref cs.c_f_law) A outer s H E) (fun cls d _ H => E cls d H) 6) : DQ (cxOf (L2.CX P w) P w K mg base N_law (PySem.Str.ofString "law") (defScope s_f_law) f (.ref cs.c_f_law) A outer s H E) (gOf cs (some q) (lamsX (cxOf (L2.CX P w) P w K mg base N_law (PySem.Str.ofString "law") (defScope s_f_law) f (.ref cs.c_f_law) A outer s H E).env.cells)) (fun cls d _ H => E cls d H) (bst 14) mb_14 := by
  exact dq_if (dt_bool (dw_or (dt_cmp (od_ne on.un) (de_kn (kn_f_total T B) on (by decide) (da_cons (de_var (i := 20) rfl (.inr (.inl rfl))) (da_nil))) (de_var (i := 6) rfl (.inl rfl)) rfl) (dw_or (dt_cmp (od_ne on.un) (de_told (k := 4) (told_k T) (on.up (by decide)) B.f_law (ltok_f_law T) rfl (LamX.lamS_by rfl) rfl (fun _ _ _ _ _ => rfl) (fun _ _ _ _ _ _ _ on1 => de_kn (kn_f_least_of T B) on1 (by decide) (da_cons (de_var (i := 20) rfl (.inr (.inr rfl))) (da_nil)))) (de_if (dt_cmp (od_ne on.un) (de_var (i := 8) rfl (.inl rfl)) (de_new (dn_lst (da_nil))) rfl) (de_ix (de_var (i := 8) rfl (.inl rfl)) (de_int)) (de_str)) rfl) (dw_or1 (dt_cmp (od_ne on.un) (de_told (k := 4) (told_k T) (on.up (by decide)) B.f_law (ltok_f_law T) rfl (LamX.lamS_by rfl) rfl (fun _ _ _ _ _ => rfl) (fun _ _ _ _ _ _ _ on1 => de_kn (kn_f_greatest_of T B) on1 (by decide) (da_cons (de_var (i := 20) rfl (.inr (.inr rfl))) (da_nil)))) (de_if (dt_cmp (od_ne on.un) (de_var (i := 9) rfl (.inl rfl)) (de_new (dn_lst (da_nil))) rfl) (de_ix (de_var (i := 9) rfl (.inl rfl)) (de_int)) (de_str)) rfl))))) (dqs_one (dq_ret (de_bl))) (dqs_nil)
theorem qb_15 {P : Program} {w : World} {K : PySem.W.Frag} {mg : Str → Option Value} {base : Heap} {cs : Cs} {f : Addr} {A : Around} {outer : List Env} {s : Shared} {H : Hp} {E : XK} {q : Addr} (T : Facts K mg cs) (B : Bas base mg cs) (on : On (cxOf (L2.CX P w) P w K mg base N_law (PySem.Str.ofString "law") (defScope s_f_law) f (.ref cs.c_f_law) A outer s H E) (fun cls d _ H => E cls d H) 6) : DQ (cxOf (L2.CX P w) P w K mg base N_law (PySem.Str.ofString "law") (defScope s_f_law) f (.ref cs.c_f_law) A outer s H E) (gOf cs (some q) (lamsX (cxOf (L2.CX P w) P w K mg base N_law (PySem.Str.ofString "law") (defScope s_f_law) f (.ref cs.c_f_law) A outer s H E).env.cells)) (fun cls d _ H => E cls d H) (bst 15) mb_15 := by
  exact dq_set (i := 10) sc_f_law.nd rfl (.inl rfl) (de_bin od_add (de_bty cd_str rfl T.b_str rfl (da_cons (de_ix (de_var (i := 18) rfl (.inr (.inl rfl))) (de_int)) (da_nil))) (de_if (dt_cmp (od_ne on.un) (de_ix (de_var (i := 18) rfl (.inr (.inl rfl))) (de_int)) (de_int) rfl) (de_bin od_add (de_str) (de_bty cd_str rfl T.b_str rfl (da_cons (de_ix (de_var (i := 18) rfl (.inr (.inl rfl))) (de_int)) (da_nil)))) (de_str)))
theorem qb_16 {P : Program} {w : World} {K : PySem.W.Frag} {mg : Str → Option Value} {base : Heap} {cs : Cs} {f : Addr} {A : Around} {outer : List Env} {s : Shared} {H : Hp} {E : XK} {q : Addr} (T : Facts K mg cs) (B : Bas base mg cs) (on : On (cxOf (L2.CX P w) P w K mg base N_law (PySem.Str.ofString "law") (defScope s_f_law) f (.ref cs.c_f_law) A outer s H E) (fun cls d _ H => E cls d H) 6) : DQ (cxOf (L2.CX P w) P w K mg base N_law (PySem.Str.ofString "law") (defScope s_f_law) f (.ref cs.c_f_law) A outer s H E) (gOf cs (some q) (lamsX (cxOf (L2.CX P w) P w K mg base N_law (PySem.Str.ofString "law") (defScope s_f_law) f (.ref cs.c_f_law) A outer s H E).env.cells)) (fun cls d _ H => E cls d H) (bst 16) mb_16 := by
  exact dq_if (dt_bool (dw_or (dt_cmp (od_ne on.un) (de_kn (kn_f_shown T B) on (by decide) (da_cons (de_var (i := 18) rfl (.inr (.inl rfl))) (da_nil))) (de_var (i := 10) rfl (.inl rfl)) rfl) (dw_or1 (dt_cmp (od_ne on.un) (de_kn (kn_f_read T B) on (by decide) (da_cons (de_var (i := 10) rfl (.inl rfl)) (da_nil))) (de_var (i := 18) rfl (.inr (.inl rfl))) rfl)))) (dqs_one (dq_ret (de_bl))) (dqs_nil)
theorem qb_17 {P : Program} {w : World} {K : PySem.W.Frag} {mg : Str → Option Value} {base : Heap} {cs : Cs} {f : Addr} {A : Around} {outer : List Env} {s : Shared} {H : Hp} {E : XK} {q : Addr} (T : Facts K mg cs) (B : Bas base mg cs) (on : On (cxOf (L2.CX P w) P w K mg base N_law (PySem.Str.ofString "law") (defScope s_f_law) f (.ref cs.c_f_law) A outer s H E) (fun cls d _ H => E cls d H) 6) : DQ (cxOf (L2.CX P w) P w K mg base N_law (PySem.Str.ofString "law") (defScope s_f_law) f (.ref cs.c_f_law) A outer s H E) (gOf cs (some q) (lamsX (cxOf (L2.CX P w) P w K mg base N_law (PySem.Str.ofString "law") (defScope s_f_law) f (.ref cs.c_f_law) A outer s H E).env.cells)) (fun cls d _ H => E cls d H) (bst 17) mb_17 := by
  exact dq_if (dt_cmp (od_ne on.un) (de_kn (kn_f_whole_below T B) on (by decide) (da_cons (de_var (i := 18) rfl (.inr (.inl rfl))) (da_nil))) (de_ix (de_new (dn_lc (own := [((PySem.Str.ofString "k"), 21)]) rfl sc_f_law.nd (di_range2 rfl T.b_range (da_cons (de_neg (de_int)) (da_cons (de_int) (da_nil)))) (blk_of rfl) (fun _ _ _ _ _ => dg_name (i := 21) (vs := [21]) (by decide) sc_f_law.nd rfl (.inl rfl)) (fun _ _ _ _ _ => dts_one (dt_cmp od_le (de_bin od_mul (de_var (i := 21) rfl (.inl rfl)) (de_ix (de_var (i := 18) rfl (.inr (.inl rfl))) (de_int))) (de_ix (de_var (i := 18) rfl (.inr (.inl rfl))) (de_int)) rfl)) (fun _ _ _ _ _ => de_var (i := 21) rfl (.inl rfl)))) (de_bin od_sub (de_blt cd_len rfl T.b_len rfl (da_cons (de_new (dn_lc (own := [((PySem.Str.ofString "k"), 21)]) rfl sc_f_law.nd (di_range2 rfl T.b_range (da_cons (de_neg (de_int)) (da_cons (de_int) (da_nil)))) (blk_of rfl) (fun _ _ _ _ _ => dg_name (i := 21) (vs := [21]) (by decide) sc_f_law.nd rfl (.inl rfl)) (fun _ _ _ _ _ => dts_one (dt_cmp od_le (de_bin od_mul (de_var (i := 21) rfl (.inl rfl)) (de_ix (de_var (i := 18) rfl (.inr (.inl rfl))) (de_int))) (de_ix (de_var (i := 18) rfl (.inr (.inl rfl))) (de_int)) rfl)) (fun _ _ _ _ _ => de_var (i := 21) rfl (.inl rfl)))) (da_nil))) (de_int))) rfl) (dqs_one (dq_ret (de_bl))) (dqs_nil)
theorem qb_18 {P : Program} {w : World} {K : PySem.W.Frag} {mg : Str → Option Value} {base : Heap} {cs : Cs} {f : Addr} {A : Around} {outer : List Env} {s : Shared} {H : Hp} {E : XK} {q : Addr} (T : Facts K mg cs) (B : Bas base mg cs) (on : On (cxOf (L2.CX P w) P w K mg base N_law (PySem.Str.ofString "law") (defScope s_f_law) f (.ref cs.c_f_law) A outer s H E) (fun cls d _ H => E cls d H) 6) : DQ (cxOf (L2.CX P w) P w K mg base N_law (PySem.Str.ofString "law") (defScope s_f_law) f (.ref cs.c_f_law) A outer s H E) (gOf cs (some q) (lamsX (cxOf (L2.CX P w) P w K mg base N_law (PySem.Str.ofString "law") (defScope s_f_law) f (.ref cs.c_f_law) A outer s H E).env.cells)) (fun cls d _ H => E cls d H) (bst 18) mb_18 := by
  exact dq_set (i := 17) sc_f_law.nd rfl (.inr rfl) (de_join (de_str) (de_new (dn_lc (own := [((PySem.Str.ofString "k"), 21)]) rfl sc_f_law.nd (di_range1 rfl T.b_range (da_cons (de_kn (kn_f_law_roll T B) on (by decide) (da_cons (de_var (i := 1) rfl (.inr (.inl rfl))) (da_cons (de_int) (da_nil)))) (da_nil))) (blk_of rfl) (fun _ _ _ _ _ => dg_name (i := 21) (vs := [21]) (by decide) sc_f_law.nd rfl (.inl rfl)) (fun _ _ _ _ _ => dts_nil) (fun _ _ _ _ _ => de_ix (de_str) (de_kn (kn_f_law_roll T B) (on.blk _ _ _ _ _) (by decide) (da_cons (de_var (i := 1) rfl (.inr (.inl rfl))) (da_cons (de_int) (da_nil))))))))
theorem qb_19 {P : Program} {w : World} {K : PySem.W.Frag} {mg : Str → Option Value} {base : Heap} {cs : Cs} {f : Addr} {A : Around} {outer : List Env} {s : Shared} {H : Hp} {E : XK} {q : Addr} (T : Facts K mg cs) (B : Bas base mg cs) (on : On (cxOf (L2.CX P w) P w K mg base N_law (PySem.Str.ofString "law") (defScope s_f_law) f (.ref cs.c_f_law) A outer s H E) (fun cls d _ H => E cls d H) 6) : DQ (cxOf (L2.CX P w) P w K mg base N_law (PySem.Str.ofString "law") (defScope s_f_law) f (.ref cs.c_f_law) A outer s H E) (gOf cs (some q) (lamsX (cxOf (L2.CX P w) P w K mg base N_law (PySem.Str.ofString "law") (defScope s_f_law) f (.ref cs.c_f_law) A outer s H E).env.cells)) (fun cls d _ H => E cls d H) (bst 19) mb_19 := by
  exact dq_set (i := 4) sc_f_law.nd rfl (.inl rfl) (de_kn (kn_f_law_read T B) on (by decide) (da_cons (de_var (i := 17) rfl (.inr (.inl rfl))) (da_nil)))
theorem qb_20 {P : Program} {w : World} {K : PySem.W.Frag} {mg : Str → Option Value} {base : Heap} {cs : Cs} {f : Addr} {A : Around} {outer : List Env} {s : Shared} {H : Hp} {E : XK} {q : Addr} (T : Facts K mg cs) (B : Bas base mg cs) (on : On (cxOf (L2.CX P w) P w K mg base N_law (PySem.Str.ofString "law") (defScope s_f_law) f (.ref cs.c_f_law) A outer s H E) (fun cls d _ H => E cls d H) 6) : DQ (cxOf (L2.CX P w) P w K mg base N_law (PySem.Str.ofString "law") (defScope s_f_law) f (.ref cs.c_f_law) A outer s H E) (gOf cs (some q) (lamsX (cxOf (L2.CX P w) P w K mg base N_law (PySem.Str.ofString "law") (defScope s_f_law) f (.ref cs.c_f_law) A outer s H E).env.cells)) (fun cls d _ H => E cls d H) (bst 20) mb_20 := by
  exact dq_if (dt_cmp (od_ne on.un) (de_told (k := 2) (told_k T) (on.up (by decide)) B.f_law (ltok_f_law T) rfl (LamX.lamS_by rfl) rfl (fun _ _ _ _ _ => rfl) (fun _ _ _ _ _ _ _ on1 => de_kn (kn_f_read T B) on1 (by decide) (da_cons (de_var (i := 17) rfl (.inr (.inr rfl))) (da_nil)))) (de_if (dt_cmp od_notN (de_var (i := 4) rfl (.inl rfl)) (de_non) rfl) (de_var (i := 4) rfl (.inl rfl)) (de_str)) rfl) (dqs_one (dq_ret (de_bl))) (dqs_nil)
theorem qb_21 {P : Program} {w : World} {K : PySem.W.Frag} {mg : Str → Option Value} {base : Heap} {cs : Cs} {f : Addr} {A : Around} {outer : List Env} {s : Shared} {H : Hp} {E : XK} {q : Addr} (T : Facts K mg cs) (B : Bas base mg cs) (on : On (cxOf (L2.CX P w) P w K mg base N_law (PySem.Str.ofString "law") (defScope s_f_law) f (.ref cs.c_f_law) A outer s H E) (fun cls d _ H => E cls d H) 6) : DQ (cxOf (L2.CX P w) P w K mg base N_law (PySem.Str.ofString "law") (defScope s_f_law) f (.ref cs.c_f_law) A outer s H E) (gOf cs (some q) (lamsX (cxOf (L2.CX P w) P w K mg base N_law (PySem.Str.ofString "law") (defScope s_f_law) f (.ref cs.c_f_law) A outer s H E).env.cells)) (fun cls d _ H => E cls d H) (bst 21) mb_21 := by
  exact dq_setLc (i := 11) (own := [((PySem.Str.ofString "j"), 23)]) rfl sc_f_law.nd rfl rfl rfl (di_range1 rfl T.b_range (da_cons (de_int) (da_nil))) (blk_of rfl) (fun _ _ _ _ _ => dg_name (i := 23) (vs := [23]) (by decide) sc_f_law.nd rfl (.inl rfl)) (fun _ _ _ _ _ => dts_nil) (fun _ _ _ _ _ => de_new (dn_lc (own := [((PySem.Str.ofString "k"), 21)]) rfl sc_f_law.nd (di_range1 rfl T.b_range (da_cons (de_int) (da_nil))) (blk_of rfl) (fun _ _ _ _ _ => dg_name (i := 21) (vs := [21]) (by decide) sc_f_law.nd rfl (.inl rfl)) (fun _ _ _ _ _ => dts_nil) (fun _ _ _ _ _ => de_kn (kn_f_law_drawn T B) ((on.blk _ _ _ _ _).blk _ _ _ _ _) (by decide) (da_cons (de_var (i := 1) rfl (.inr (.inl rfl))) (da_nil)))))
theorem qb_22 {P : Program} {w : World} {K : PySem.W.Frag} {mg : Str → Option Value} {base : Heap} {cs : Cs} {f : Addr} {A : Around} {outer : List Env} {s : Shared} {H : Hp} {E : XK} {q : Addr} (T : Facts K mg cs) (B : Bas base mg cs) (on : On (cxOf (L2.CX P w) P w K mg base N_law (PySem.Str.ofString "law") (defScope s_f_law) f (.ref cs.c_f_law) A outer s H E) (fun cls d _ H => E cls d H) 6) : DQ (cxOf (L2.CX P w) P w K mg base N_law (PySem.Str.ofString "law") (defScope s_f_law) f (.ref cs.c_f_law) A outer s H E) (gOf cs (some q) (lamsX (cxOf (L2.CX P w) P w K mg base N_law (PySem.Str.ofString "law") (defScope s_f_law) f (.ref cs.c_f_law) A outer s H E).env.cells)) (fun cls d _ H => E cls d H) (bst 22) mb_22 := by
  exact dq_set (i := 6) sc_f_law.nd rfl (.inl rfl) (de_tup (da_cons (de_int) (da_cons (de_int) (da_nil))))
theorem qb_23 {P : Program} {w : World} {K : PySem.W.Frag} {mg : Str → Option Value} {base : Heap} {cs : Cs} {f : Addr} {A : Around} {outer : List Env} {s : Shared} {H : Hp} {E : XK} {q : Addr} (T : Facts K mg cs) (B : Bas base mg cs) (on : On (cxOf (L2.CX P w) P w K mg base N_law (PySem.Str.ofString "law") (defScope s_f_law) f (.ref cs.c_f_law) A outer s H E) (fun cls d _ H => E cls d H) 6) : DQ (cxOf (L2.CX P w) P w K mg base N_law (PySem.Str.ofString "law") (defScope s_f_law) f (.ref cs.c_f_law) A outer s H E) (gOf cs (some q) (lamsX (cxOf (L2.CX P w) P w K mg base N_law (PySem.Str.ofString "law") (defScope s_f_law) f (.ref cs.c_f_law) A outer s H E).env.cells)) (fun cls d _ H => E cls d H) (bst 23) mb_23 := by
  exact dq_for on.passes rfl (di_seq (de_new (dn_lst (da_cons (de_tup (da_cons (de_int) (da_cons (de_int) (da_cons (de_int) (da_cons (de_int) (da_nil)))))) (da_cons (de_tup (da_cons (de_int) (da_cons (de_int) (da_cons (de_int) (da_cons (de_int) (da_nil)))))) (da_cons (de_tup (da_cons (de_int) (da_cons (de_int) (da_cons (de_int) (da_cons (de_int) (da_nil)))))) (da_cons (de_tup (da_cons (de_int) (da_cons (de_int) (da_cons (de_int) (da_cons (de_neg (de_int)) (da_nil)))))) (da_cons (de_tup (da_cons (de_int) (da_cons (de_int) (da_cons (de_int) (da_cons (de_neg (de_int)) (da_nil)))))) (da_cons (de_tup (da_cons (de_int) (da_cons (de_int) (da_cons (de_int) (da_cons (de_neg (de_int)) (da_nil)))))) (da_nil)))))))))) (dg_tup rfl (dgs_cons (dg_name (i := 12) (vs := [12, 13, 14, 15]) (by decide) sc_f_law.nd rfl (.inl rfl)) (dgs_cons (dg_name (i := 13) (vs := [12, 13, 14, 15]) (by decide) sc_f_law.nd rfl (.inl rfl)) (dgs_cons (dg_name (i := 14) (vs := [12, 13, 14, 15]) (by decide) sc_f_law.nd rfl (.inl rfl)) (dgs_cons (dg_name (i := 15) (vs := [12, 13, 14, 15]) (by decide) sc_f_law.nd rfl (.inl rfl)) (dgs_nil)))))) (dqs_one (dq_set (i := 6) sc_f_law.nd rfl (.inl rfl) (de_kn (kn_f_law_plus T B) on (by decide) (da_cons (de_var (i := 6) rfl (.inl rfl)) (da_cons (de_kn (kn_f_law_times T B) on (by decide) (da_cons (de_tup (da_cons (de_var (i := 15) rfl (.inl rfl)) (da_cons (de_int) (da_nil)))) (da_cons (de_kn (kn_f_law_times T B) on (by decide) (da_cons (de_ix (de_ix (de_var (i := 11) rfl (.inl rfl)) (de_int)) (de_var (i := 12) rfl (.inl rfl))) (da_cons (de_kn (kn_f_law_times T B) on (by decide) (da_cons (de_ix (de_ix (de_var (i := 11) rfl (.inl rfl)) (de_int)) (de_var (i := 13) rfl (.inl rfl))) (da_cons (de_ix (de_ix (de_var (i := 11) rfl (.inl rfl)) (de_int)) (de_var (i := 14) rfl (.inl rfl))) (da_nil)))) (da_nil)))) (da_nil)))) (da_nil))))))
theorem qb_24 {P : Program} {w : World} {K : PySem.W.Frag} {mg : Str → Option Value} {base : Heap} {cs : Cs} {f : Addr} {A : Around} {outer : List Env} {s : Shared} {H : Hp} {E : XK} {q : Addr} (T : Facts K mg cs) (B : Bas base mg cs) (on : On (cxOf (L2.CX P w) P w K mg base N_law (PySem.Str.ofString "law") (defScope s_f_law) f (.ref cs.c_f_law) A outer s H E) (fun cls d _ H => E cls d H) 6) : DQ (cxOf (L2.CX P w) P w K mg base N_law (PySem.Str.ofString "law") (defScope s_f_law) f (.ref cs.c_f_law) A outer s H E) (gOf cs (some q) (lamsX (cxOf (L2.CX P w) P w K mg base N_law (PySem.Str.ofString "law") (defScope s_f_law) f (.ref cs.c_f_law) A outer s H E).env.cells)) (fun cls d _ H => E cls d H) (bst 24) mb_24 := by
  exact dq_if (dt_cmp (od_ne on.un) (de_kn (kn_f_three_by_three T B) on (by decide) (da_cons (de_ix (de_var (i := 11) rfl (.inl rfl)) (de_int)) (da_cons (de_ix (de_var (i := 11) rfl (.inl rfl)) (de_int)) (da_cons (de_ix (de_var (i := 11) rfl (.inl rfl)) (de_int)) (da_nil))))) (de_var (i := 6) rfl (.inl rfl)) rfl) (dqs_one (dq_ret (de_bl))) (dqs_nil)
theorem qr_0 {P : Program} {w : World} {K : PySem.W.Frag} {mg : Str → Option Value} {base : Heap} {cs : Cs} {f : Addr} {A : Around} {outer : List Env} {s : Shared} {H : Hp} {E : XK} {q : Addr} (T : Facts K mg cs) (B : Bas base mg cs) (on : On (cxOf (L2.CX P w) P w K mg base N_law (PySem.Str.ofString "law") (defScope s_f_law) f (.ref cs.c_f_law) A outer s H E) (fun cls d _ H => E cls d H) 6) : DQ (cxOf (L2.CX P w) P w K mg base N_law (PySem.Str.ofString "law") (defScope s_f_law) f (.ref cs.c_f_law) A outer s H E) (gOf cs (some q) (lamsX (cxOf (L2.CX P w) P w K mg base N_law (PySem.Str.ofString "law") (defScope s_f_law) f (.ref cs.c_f_law) A outer s H E).env.cells)) (fun cls d _ H => E cls d H) (rst 0) mr_0 := by
  exact dq_own (i := 16) sc_f_law.nd rfl (.inl rfl) (dn_lst (da_cons (de_lam rfl B.f_law (ltok_f_law T) rfl (LamX.lamS_by rfl) rfl) (da_cons (de_lam rfl B.f_law (ltok_f_law T) rfl (LamX.lamS_by rfl) rfl) (da_cons (de_lam rfl B.f_law (ltok_f_law T) rfl (LamX.lamS_by rfl) rfl) (da_cons (de_lam rfl B.f_law (ltok_f_law T) rfl (LamX.lamS_by rfl) rfl) (da_cons (de_lam rfl B.f_law (ltok_f_law T) rfl (LamX.lamS_by rfl) rfl) (da_cons (de_lam rfl B.f_law (ltok_f_law T) rfl (LamX.lamS_by rfl) rfl) (da_cons (de_lam rfl B.f_law (ltok_f_law T) rfl (LamX.lamS_by rfl) rfl) (da_cons (de_lam rfl B.f_law (ltok_f_law T) rfl (LamX.lamS_by rfl) rfl) (da_cons (de_lam rfl B.f_law (ltok_f_law T) rfl (LamX.lamS_by rfl) rfl) (da_nil)))))))))))
theorem qr_1 {P : Program} {w : World} {K : PySem.W.Frag} {mg : Str → Option Value} {base : Heap} {cs : Cs} {f : Addr} {A : Around} {outer : List Env} {s : Shared} {H : Hp} {E : XK} {q : Addr} (T : Facts K mg cs) (B : Bas base mg cs) (on : On (cxOf (L2.CX P w) P w K mg base N_law (PySem.Str.ofString "law") (defScope s_f_law) f (.ref cs.c_f_law) A outer s H E) (fun cls d _ H => E cls d H) 6) : DQ (cxOf (L2.CX P w) P w K mg base N_law (PySem.Str.ofString "law") (defScope s_f_law) f (.ref cs.c_f_law) A outer s H E) (gOf cs (some q) (lamsX (cxOf (L2.CX P w) P w K mg base N_law (PySem.Str.ofString "law") (defScope s_f_law) f (.ref cs.c_f_law) A outer s H E).env.cells)) (fun cls d _ H => E cls d H) (rst 1) mr_1 := by
  exact dq_if (dt_not (dt_bool (dw_and (dt_cmp (od_eq on.un) (de_new (dn_lc (own := [((PySem.Str.ofString "f"), 24)]) rfl sc_f_law.nd (di_seq (de_var (i := 16) rfl (.inl rfl))) (blk_of rfl) (fun _ _ _ _ _ => dg_name (i := 24) (vs := [24]) (by decide) sc_f_law.nd rfl (.inl rfl)) (fun _ _ _ _ _ => dts_one (dt_cmp (od_ne (on.blk _ _ _ _ _).un) (de_toldK (k := 4) (i := 24) (told_k T) ((on.blk _ _ _ _ _).up (by decide)) rfl (.inl rfl) (lams_f_law T B rfl)) (de_str) rfl)) (fun _ _ _ _ _ => de_int))) (de_new (dn_lst (da_nil))) rfl) (dw_and1 (dt_cmp (od_eq on.un) (de_kn (kn_f_read T B) on (by decide) (da_cons (de_str) (da_nil))) (de_tup (da_cons (de_neg (de_int)) (da_cons (de_int) (da_nil)))) rfl))))) (dqs_one (dq_ret (de_bl))) (dqs_nil)
theorem qr_2 {P : Program} {w : World} {K : PySem.W.Frag} {mg : Str → Option Value} {base : Heap} {cs : Cs} {f : Addr} {A : Around} {outer : List Env} {s : Shared} {H : Hp} {E : XK} {q : Addr} (T : Facts K mg cs) (B : Bas base mg cs) (on : On (cxOf (L2.CX P w) P w K mg base N_law (PySem.Str.ofString "law") (defScope s_f_law) f (.ref cs.c_f_law) A outer s H E) (fun cls d _ H => E cls d H) 6) : DQ (cxOf (L2.CX P w) P w K mg base N_law (PySem.Str.ofString "law") (defScope s_f_law) f (.ref cs.c_f_law) A outer s H E) (gOf cs (some q) (lamsX (cxOf (L2.CX P w) P w K mg base N_law (PySem.Str.ofString "law") (defScope s_f_law) f (.ref cs.c_f_law) A outer s H E).env.cells)) (fun cls d _ H => E cls d H) (rst 2) mr_2 := by
  exact dq_ret (de_and (de_cmp (od_eq on.un) (de_kn (kn_f_shown T B) on (by decide) (da_cons (de_tup (da_cons (de_neg (de_int)) (da_cons (de_int) (da_nil)))) (da_nil))) (de_str) rfl) (de_and (de_cmp (od_eq on.un) (de_kn (kn_f_number_2 T B) on (by decide) (da_cons (de_int) (da_cons (de_neg (de_int)) (da_nil)))) (de_tup (da_cons (de_int) (da_cons (de_int) (da_nil)))) rfl) (de_one (de_cmp (od_eq on.un) (de_kn (kn_f_whole_below T B) on (by decide) (da_cons (de_tup (da_cons (de_neg (de_int)) (da_cons (de_int) (da_nil)))) (da_nil))) (de_neg (de_int)) rfl))))
theorem q_it {P : Program} {w : World} {K : PySem.W.Frag} {mg : Str → Option Value} {base : Heap} {cs : Cs} {f : Addr} {A : Around} {outer : List Env} {s : Shared} {H : Hp} {E : XK} (T : Facts K mg cs) (B : Bas base mg cs) (on : On (cxOf (L2.CX P w) P w K mg base N_law (PySem.Str.ofString "law") (defScope s_f_law) f (.ref cs.c_f_law) A outer s H E) (fun cls d _ H => E cls d H) 6) : DE (cxOf (L2.CX P w) P w K mg base N_law (PySem.Str.ofString "law") (defScope s_f_law) f (.ref cs.c_f_law) A outer s H E) (gOf cs none []) (fun cls d _ H => E cls d H) lawIter m_it := by
  exact de_kn (kn_f_law_rounds T B) on (by decide) (da_cons (de_var (i := 0) rfl (.inl rfl)) (da_cons (de_int) (da_nil)))
theorem fn_the_law {P : Program} {w : World} {K : PySem.W.Frag} {mg : Str → Option Value} {base : Heap} {cs : Cs} {f : Addr} {fd : FuncData} (T : Facts K mg cs) (B : Bas base mg cs) (D0 : DefAt K mg (PySem.Str.ofString "law") s_f_law [] f fd (.ref cs.c_f_law)) {PI : List Int → Prop}
    (M : ∀ (ks : List Int) (s : S), PI ks → ∃ (a b c : Int) (z1 z2 z3 : Z), m_it ⟨.d (.scr (ks.map D.int)) :: List.replicate 24 .un, s⟩ = .ok (.lst [.lst [.int a, .int b, .int c]]) z1 ∧ m_body ⟨(List.replicate 25 .un).set 1 (.d .dice), (a, b, c)⟩ = .ok .nx z2 ∧ m_rest z2 = .ok (.rt (.bl true)) z3) :
    FnOk P w K mg base (L2.CX P w) 7 f fd [(PySem.Str.ofString "script")] (spLaw K mg (gOf cs none []) PI) := by
  refine fn_law (N := N_law) (k := 6) D0.F sc_f_law (fun A outer s H E on => ⟨_, pss_law (i := 1) (g0 := gOf cs none []) (gq := fun q => gOf cs (some q) (lamsX (cxOf (L2.CX P w) P w K mg base N_law (PySem.Str.ofString "law") (defScope s_f_law) f (.ref cs.c_f_law) A outer s H E).env.cells)) (fun _ => rfl) (fun _ => rfl) (fun _ => rfl) on.passes rfl sc_f_law.nd rfl (.inr rfl) (q_it T B on) (fun q => dqs_cons (qb_0 T B on) (dqs_cons (qb_1 T B on) (dqs_cons (qb_2 T B on) (dqs_cons (qb_3 T B on) (dqs_cons (qb_4 T B on) (dqs_cons (qb_5 T B on) (dqs_cons (qb_6 T B on) (dqs_cons (qb_7 T B on) (dqs_cons (qb_8 T B on) (dqs_cons (qb_9 T B on) (dqs_cons (qb_10 T B on) (dqs_cons (qb_11 T B on) (dqs_cons (qb_12 T B on) (dqs_cons (qb_13 T B on) (dqs_cons (qb_14 T B on) (dqs_cons (qb_15 T B on) (dqs_cons (qb_16 T B on) (dqs_cons (qb_17 T B on) (dqs_cons (qb_18 T B on) (dqs_cons (qb_19 T B on) (dqs_cons (qb_20 T B on) (dqs_cons (qb_21 T B on) (dqs_cons (qb_22 T B on) (dqs_cons (qb_23 T B on) (dqs_one (qb_24 T B on)))))))))))))))))))))))))) (fun q => dqs_cons (qr_0 T B on) (dqs_cons (qr_1 T B on) (dqs_one (qr_2 T B on)))), ?_⟩)
  intro F H ks s σ De hP n hD
  obtain ⟨a, b, c, z1, z2, z3, e1, e2, e3⟩ := M ks s hP
  exact ⟨F, H, F, _, a, b, c, z1, z2, z3, n, e1, e2, e3, hD⟩
end K01

set_option Elab.async false
set_option linter.all false
set_option maxRecDepth 100000
set_option autoImplicit false
namespace K01
open DL PySem PySem.Spec PyProof.Rows L2
theorem sm_abs {i : Int} (h : Sm i) : Sm (i.natAbs : Nat) := by unfold Sm at *; simpa using h
theorem gcd_sm {t b : Int} (hb : b ≠ 0) (h : Sm b) : smB ((Nat.gcd t.natAbs b.natAbs : Nat) : Int) = true := by
  refine smB_of ?_
  unfold Sm at *
  have : Nat.gcd t.natAbs b.natAbs ≤ b.natAbs := Nat.gcd_le_right _ (by omega)
  simp only [Int.natAbs_natCast]
  omega
theorem number_eq {t b : Int} (s : S) (hb : Sm b) : f_number [.int t, .int b] s = if b = 0 then .err (PySem.Str.ofString "NumberError") s else .ok (Qd (Rat.divInt t b)) s := by
  unfold f_number runB m_f_number
  by_cases h : b = 0
  · subst h
    simp [evThen, evIfS, tB1, ev2, evVar, evC, opEq_int, lift, evRaise]
  · rw [if_neg h]
    have hg := gcd_sm (t := t) h hb
    have hp : 0 < Nat.gcd t.natAbs b.natAbs := Nat.gcd_pos_of_pos_right _ (by omega)
    have L := gcd_loop (.d (.int t)) (.d (.int b)) s (b.natAbs + 1) t.natAbs b.natAbs (by omega)
    unfold gcdT gcdB at L
    have e : ((b.gcd t : Nat) : Int) = (Nat.gcd t.natAbs b.natAbs : Nat) := by rw [Int.gcd_comm]; rfl
    have q1 := fun hn => sign_pos (b := b) (t := t) hn
    have q2 := fun hn => sign_neg (b := b) (t := t) hn
    rw [e] at q1 q2
    generalize Nat.gcd t.natAbs b.natAbs = g at *
    have hp' : (0 : Int) < g := by omega
    simp [evThen, evIfS, tB1, evVar, evC, opEq_int, lift, evSkip, h, evPar, evB, bAbs, evCons, evNil, abs_eq, evWhile, fuI, ev2, L]
    by_cases hn : 0 < b
    · obtain ⟨q1, q3⟩ := q1 hn
      simp [evRet, evIf, tB1, ev2, evVar, evC, opGt, lift, hn, evTup, evCons, evNil, opDiv, hg, hp', hp, Qd, q1, q3]
    · obtain ⟨q1, q3⟩ := q2 (by omega)
      simp [evRet, evIf, tB1, ev2, evVar, evC, opGt, opSub, lift, hn, evTup, evCons, evNil, opDiv, hg, hp', hp, Qd, q1, q3]
theorem least_eq {t b : Int} (s : S) (h : b ≠ 0) (hb : Sm b) : f_law_least [.int t, .int b] s = .ok (Qd (Rat.divInt t b)) s := by
  unfold f_law_least runB m_f_law_least
  have hg := gcd_sm (t := t) h hb
  have hp : 0 < Nat.gcd t.natAbs b.natAbs := Nat.gcd_pos_of_pos_right _ (by omega)
  have L := gcd_loop (.d (.int t)) (.d (.int b)) s (b.natAbs + 1) t.natAbs b.natAbs (by omega)
  unfold gcdT gcdB at L
  have e : ((b.gcd t : Nat) : Int) = (Nat.gcd t.natAbs b.natAbs : Nat) := by rw [Int.gcd_comm]; rfl
  have q1 := fun hn => sign_pos (b := b) (t := t) hn
  have q2 := fun hn => sign_neg (b := b) (t := t) hn
  have dv := gcd_dvd_int t b
  rw [e] at q1 q2 dv
  generalize Nat.gcd t.natAbs b.natAbs = g at *
  have hp' : (0 : Int) < g := by omega
  simp [evThen, evIfS, tB1, evVar, evC, opEq_int, lift, evSkip, h, evPar, evB, bAbs, evCons, evNil, abs_eq, evWhile, fuI, ev2, L]
  by_cases hn : 0 < b
  · obtain ⟨q1, q3⟩ := q1 hn
    simp [evRet, evIf, tB1, ev2, evVar, evC, opGt, lift, hn, evTup, evCons, evNil, opDiv, hg, hp', hp, Qd, q1, q3]
  · obtain ⟨q1, q3⟩ := q2 (by omega)
    rw [← Int.neg_ediv_of_dvd dv.1] at q1
    rw [← Int.neg_ediv_of_dvd dv.2] at q3
    simp [evRet, evIf, tB1, ev2, ev1, evVar, evC, opGt, opSub, evNeg, lift, hn, evTup, evCons, evNil, opDiv, hg, hp', hp, Qd, q1, q3]

theorem plus_eq {m n : Nat} {a b : Rat} (s : S) (ha : Bd m a) (hb : Bd n b) (h : m + n ≤ 7000) : f_plus [Qd a, Qd b] s = .ok (Qd (a + b)) s := by
  unfold f_plus runB m_f_plus
  have h1 := mulB_sm (ha.smn (by omega)) (hb.smd (by omega))
  have h2 := mulB_sm (hb.smn (by omega)) (ha.smd (by omega))
  have h3 := mulB_sm (ha.smd (by omega)) (hb.smd (by omega))
  have e := number_eq (t := a.num * b.den + b.num * a.den) (b := (a.den : Int) * b.den) s (sm_of (ha.bot hb) (by omega))
  rw [if_neg (den_ne a b), ← add_divInt] at e
  simp [evRet, evCall, evCons, evNil, ev2, evVar, evC, atQ0, atQ1, opMul, opAdd, lift, h1, h2, h3, e]
theorem minus_eq {m n : Nat} {a b : Rat} (s : S) (ha : Bd m a) (hb : Bd n b) (h : m + n ≤ 7000) : f_minus [Qd a, Qd b] s = .ok (Qd (a - b)) s := by
  unfold f_minus runB m_f_minus
  have h1 := mulB_sm (ha.smn (by omega)) (hb.smd (by omega))
  have h2 := mulB_sm (hb.smn (by omega)) (ha.smd (by omega))
  have h3 := mulB_sm (ha.smd (by omega)) (hb.smd (by omega))
  have e := number_eq (t := a.num * b.den - b.num * a.den) (b := (a.den : Int) * b.den) s (sm_of (ha.bot hb) (by omega))
  rw [if_neg (den_ne a b), ← sub_divInt] at e
  simp [evRet, evCall, evCons, evNil, ev2, evVar, evC, atQ0, atQ1, opMul, opSub, lift, h1, h2, h3, e]
theorem times_eq {m n : Nat} {a b : Rat} (s : S) (ha : Bd m a) (hb : Bd n b) (h : m + n ≤ 7000) : f_times [Qd a, Qd b] s = .ok (Qd (a * b)) s := by
  unfold f_times runB m_f_times
  have h1 := mulB_sm (ha.smn (by omega)) (hb.smn (by omega))
  have h3 := mulB_sm (ha.smd (by omega)) (hb.smd (by omega))
  have e := number_eq (t := a.num * b.num) (b := (a.den : Int) * b.den) s (sm_of (ha.bot hb) (by omega))
  rw [if_neg (den_ne a b), ← mul_divInt] at e
  simp [evRet, evCall, evCons, evNil, ev2, evVar, evC, atQ0, atQ1, opMul, opSub, lift, h1, h3, e]
theorem lplus_eq {m n : Nat} {a b : Rat} (s : S) (ha : Bd m a) (hb : Bd n b) (h : m + n ≤ 7000) : f_law_plus [Qd a, Qd b] s = .ok (Qd (a + b)) s := by
  unfold f_law_plus runB m_f_law_plus
  have h1 := mulB_sm (ha.smn (by omega)) (hb.smd (by omega))
  have h2 := mulB_sm (hb.smn (by omega)) (ha.smd (by omega))
  have h3 := mulB_sm (ha.smd (by omega)) (hb.smd (by omega))
  have e := least_eq (t := a.num * b.den + b.num * a.den) (b := (a.den : Int) * b.den) s (den_ne a b) (sm_of (ha.bot hb) (by omega))
  rw [← add_divInt] at e
  simp [evRet, evCall, evCons, evNil, ev2, evVar, evC, atQ0, atQ1, opMul, opAdd, lift, h1, h2, h3, e]
theorem ltimes_eq {m n : Nat} {a b : Rat} (s : S) (ha : Bd m a) (hb : Bd n b) (h : m + n ≤ 7000) : f_law_times [Qd a, Qd b] s = .ok (Qd (a * b)) s := by
  unfold f_law_times runB m_f_law_times
  have h1 := mulB_sm (ha.smn (by omega)) (hb.smn (by omega))
  have h3 := mulB_sm (ha.smd (by omega)) (hb.smd (by omega))
  have e := least_eq (t := a.num * b.num) (b := (a.den : Int) * b.den) s (den_ne a b) (sm_of (ha.bot hb) (by omega))
  rw [← mul_divInt] at e
  simp [evRet, evCall, evCons, evNil, ev2, evVar, evC, atQ0, atQ1, opMul, opSub, lift, h1, h3, e]
theorem bd_neg {n : Nat} {a : Rat} (h : Bd n a) : Bd n (-a) := by
  constructor
  · rw [Rat.neg_num, Int.natAbs_neg]; exact h.1
  · rw [Rat.neg_den]; exact h.2
theorem lless_eq {m n : Nat} {a b : Rat} (s : S) (ha : Bd m a) (hb : Bd n b) (h : m + n ≤ 7000) : f_law_less [Qd a, Qd b] s = .ok (Qd (a - b)) s := by
  have e := lplus_eq s ha (bd_neg hb) h
  rw [← Rat.sub_eq_add_neg] at e
  unfold Qd at e
  rw [Rat.neg_num, Rat.neg_den] at e
  unfold f_law_less runB m_f_law_less
  simp [evRet, evCall, evCons, evNil, ev1, ev2, evVar, evC, evTup, evNeg, atQ0, atQ1, lift]
  unfold Qd
  simp [e]
theorem over_eq {m n : Nat} {a b : Rat} (s : S) (ha : Bd m a) (hb : Bd n b) (h : m + n ≤ 7000) : f_over [Qd a, Qd b] s = if b.num = 0 then .err (PySem.Str.ofString "NumberError") s else .ok (Qd (Rat.divInt (a.num * b.den) (a.den * b.num))) s := by
  unfold f_over runB m_f_over
  have h1 := mulB_sm (ha.smn (by omega)) (hb.smd (by omega))
  have h2 := mulB_sm (ha.smd (by omega)) (hb.smn (by omega))
  have hb2 : ((a.den : Int) * b.num).natAbs < 2 ^ (m + n) := by
    rw [Int.natAbs_mul]; exact mul_lt_pow ha.2 hb.1
  have e := number_eq (t := a.num * b.den) (b := (a.den : Int) * b.num) s (sm_of hb2 (by omega))
  have hd : (a.den : Int) ≠ 0 := by have := a.den_nz; omega
  by_cases h0 : b.num = 0
  · rw [if_pos (by rw [h0, Int.mul_zero])] at e
    rw [h0, Int.mul_zero] at e
    rw [h0] at h2
    simp [evRet, evCall, evCons, evNil, ev2, evVar, evC, atQ0, atQ1, opMul, opSub, lift, h1, h2, h0, e]
  · rw [if_neg (Int.mul_ne_zero hd h0)] at e
    simp [evRet, evCall, evCons, evNil, ev2, evVar, evC, atQ0, atQ1, opMul, opSub, lift, h1, h2, h0, e]
end K01

set_option Elab.async false
set_option linter.all false
set_option maxRecDepth 100000
set_option autoImplicit false
set_option exponentiation.threshold 300
namespace K01
open DL PySem PySem.Spec PyProof.Rows L2
/-! ### the dice: n rolls are left -/
def SOk (n : Nat) (s : S) : Prop := s.1.natAbs < 2 ^ 2000000 ∧ s.2.1.natAbs + n ≤ 1000000000
theorem SOk.mono {m n : Nat} {s : S} (h : SOk m s) (e : n ≤ m) : SOk n s := ⟨h.1, by have := h.2; omega⟩
theorem small_pow {i : Nat} (h : i ≤ 1000000000000) : i < 2 ^ 2000000 := Nat.lt_of_lt_of_le (Nat.lt_of_le_of_lt h (by decide : 1000000000000 < 2 ^ 50)) (pow_lt (by decide))
theorem roll_eq {n : Nat} {m : Int} {s : S} (h0 : 0 < m) (h1 : m ≤ 100000000) (h : SOk (n + 1) s) : ∃ k s', f_law_roll [.dice, .int m] s = .ok (.int k) s' ∧ 0 ≤ k ∧ k < m ∧ SOk n s' := by
  obtain ⟨x, y, f⟩ := s
  obtain ⟨hx, hy⟩ := h
  simp only at hx hy
  have sm : smB m = true := smB_of (sm_of (n := 50) (by omega) (by decide))
  have a0 : ∀ s : S, atI (sList s) 0 = some s.1 := fun _ => rfl
  have a1 : ∀ s : S, atI (sList s) 1 = some s.2.1 := fun _ => rfl
  have a2 : ∀ s : S, atI (sList s) 2 = some s.2.2 := fun _ => rfl
  have b0 : ∀ (s : S) i, sSet s 0 i = some (i, s.2.1, s.2.2) := fun _ _ => rfl
  have b1 : ∀ (s : S) i, sSet s 1 i = some (s.1, i, s.2.2) := fun _ _ => rfl
  have b2 : ∀ (s : S) i, sSet s 2 i = some (s.1, s.2.1, i) := fun _ _ => rfl
  by_cases hf : f = 2 ∨ (f = 1 ∧ 0 < x)
  · refine ⟨x % m, (x / m, y, f), ?_, Int.emod_nonneg _ (by omega), Int.emod_lt_of_pos _ h0, ⟨Nat.lt_of_le_of_lt (Int.natAbs_ediv_le_natAbs _ _) hx, by simp only; omega⟩⟩
    unfold f_law_roll runB m_f_law_roll
    rcases hf with rfl | ⟨rfl, hp⟩
    · simp [evThen, evIfS, tOrD, tAndD, tB1, ev2, ev2s, ixS, evVar, evC, a0, a1, a2, b0, b1, b2, opEq_int, opMod, opDiv, opGt, lift, evSet, evB, bInt, evCons, evNil, evDset, evRet, h0, sm]
    · simp [evThen, evIfS, tOrD, tAndD, tB1, ev2, ev2s, ixS, evVar, evC, a0, a1, a2, b0, b1, b2, opEq_int, opMod, opDiv, opGt, lift, evSet, evB, bInt, evCons, evNil, evDset, evRet, h0, sm, hp]
  · have m1 : mulB x 48271 = true := mulB_of (a := 2000000) (b := 50) hx (by decide) (by decide)
    have m2 : mulB y 69621 = true := mulB_of (a := 50) (b := 50) (by omega) (by decide) (by decide)
    have hq := Int.emod_lt_of_pos (x * 48271 + y * 69621 + 11) (show (0 : Int) < 2147483647 by decide)
    have hq0 := Int.emod_nonneg (x * 48271 + y * 69621 + 11) (show (2147483647 : Int) ≠ 0 by decide)
    refine ⟨(x * 48271 + y * 69621 + 11) % 2147483647 / 7 % m, ((x * 48271 + y * 69621 + 11) % 2147483647, y + 1, 0), ?_, Int.emod_nonneg _ (by omega), Int.emod_lt_of_pos _ h0, ⟨small_pow (by simp only; omega), by simp only; omega⟩⟩
    unfold f_law_roll runB m_f_law_roll
    have c1 : ¬ (f = 2) := fun e => hf (.inl e)
    have c2 : smB 7 = true := smB_of (sm_of (n := 50) (by decide) (by decide))
    have c3 : ¬ (100000000 < m) := by omega
    by_cases hf1 : f = 1
    · have c4 : ¬ (0 < x) := fun e => hf (.inr ⟨hf1, e⟩)
      subst hf1
      simp [evThen, evIfS, tOrD, tAndD, tB1, ev2, ev2s, ixS, evVar, evC, a0, a1, a2, b0, b1, b2, opEq_int, opMod, opDiv, opGt, opAdd, opMul, lift, evSet, evB, bInt, evCons, evNil, evDset, evRet, evSkip, h0, sm, c1, c2, c3, c4, m1, m2]
    · simp [evThen, evIfS, tOrD, tAndD, tB1, ev2, ev2s, ixS, evVar, evC, a0, a1, a2, b0, b1, b2, opEq_int, opMod, opDiv, opGt, opAdd, opMul, lift, evSet, evB, bInt, evCons, evNil, evDset, evRet, evSkip, h0, sm, c1, c2, c3, hf1, m1, m2]
end K01

set_option Elab.async false
set_option linter.all false
set_option maxRecDepth 100000
set_option autoImplicit false
set_option exponentiation.threshold 300
namespace K01
open DL PySem PySem.Spec PyProof.Rows L2
theorem num_le {t b : Int} (h0 : b ≠ 0) : (Rat.divInt t b).num.natAbs ≤ t.natAbs ∧ (Rat.divInt t b).den ≤ b.natAbs := by
  constructor
  · rw [Rat.num_divInt]
    refine Nat.le_trans (Int.natAbs_ediv_le_natAbs _ _) ?_
    rw [Int.natAbs_mul, Int.natAbs_sign_of_ne_zero h0, Nat.one_mul]
    exact Nat.le_refl _
  · rw [Rat.den_divInt, if_neg h0]
    exact Nat.div_le_self _ _
/-- a drawn ratio -/
def Dr (r : Rat) : Prop := r.num.natAbs ≤ 30 ∧ r.den ≤ 12
theorem Dr.bd {r : Rat} (h : Dr r) : Bd 5 r := ⟨Nat.lt_of_le_of_lt h.1 (by decide), Nat.lt_of_le_of_lt h.2 (by decide)⟩
theorem drawn_eq {n : Nat} {s : S} (h : SOk (n + 2) s) : ∃ r s', f_law_drawn [.dice] s = .ok (Qd r) s' ∧ Dr r ∧ SOk n s' := by
  obtain ⟨k1, s1, e1, p1, q1, h1⟩ := roll_eq (m := 61) (by decide) (by decide) h
  obtain ⟨k2, s2, e2, p2, q2, h2⟩ := roll_eq (m := 12) (by decide) (by decide) h1
  have hb : (1 + k2) ≠ 0 := by omega
  have e3 := least_eq (t := k1 - 30) (b := 1 + k2) s2 hb (sm_of (n := 50) (by omega) (by decide))
  have hd := num_le (t := k1 - 30) hb
  refine ⟨_, s2, ?_, ⟨Nat.le_trans hd.1 (by omega), Nat.le_trans hd.2 (by omega)⟩, h2⟩
  unfold f_law_drawn runB m_f_law_drawn
  simp [evRet, evCall, evCons, evNil, ev2, evVar, evC, opSub, opAdd, lift, e1, e2, e3]
/-! ### signs -/
def sg (i : Int) : Int := if 0 < i then 1 else if i = 0 then 0 else -1
theorem sign_of_eq (a : Rat) (s : S) : f_sign_of [Qd a] s = .ok (.int (sg a.num)) s := by
  unfold f_sign_of runB m_f_sign_of sg
  by_cases h : 0 < a.num
  · simp [evRet, evIf, tB1, ev2, evVar, evC, atQ0, opGt, opEq_int, opSub, lift, h]
  · by_cases h2 : a.num = 0
    · simp [evRet, evIf, tB1, ev2, evVar, evC, atQ0, opGt, opEq_int, opSub, lift, h2]
    · simp [evRet, evIf, tB1, ev2, evVar, evC, atQ0, opGt, opEq_int, opSub, lift, h, h2]
theorem compared_eq {m n : Nat} {a b : Rat} (s : S) (ha : Bd m a) (hb : Bd n b) (h : m + n ≤ 7000) : f_compared [Qd a, Qd b] s = .ok (.int (sg (a - b).num)) s := by
  unfold f_compared runB m_f_compared
  simp [evRet, evCall, evCons, evNil, evVar, minus_eq s ha hb h, sign_of_eq]
theorem num_pos_iff (a : Rat) : 0 < a.num ↔ 0 < a := by
  have h := Rat.num_nonneg (q := -a)
  rw [Rat.neg_num] at h
  constructor
  · intro w
    rcases (Rat.le_total : a ≤ 0 ∨ 0 ≤ a) with l | l
    · have : 0 ≤ -a := by grind
      have := h.mpr this
      omega
    · have : a ≠ 0 := by intro e; rw [e] at w; exact absurd w (by decide)
      grind
  · intro w
    rcases Int.lt_or_le 0 a.num with l | l
    · exact l
    · have : 0 ≤ -a := h.mp (by omega)
      grind
theorem num_zero_iff (a : Rat) : a.num = 0 ↔ a = 0 := ⟨fun h => Rat.num_eq_zero.mp h, fun h => by rw [h]; rfl⟩
theorem lt_cross (a b : Rat) : b < a ↔ b.num * a.den < a.num * b.den := Rat.lt_iff b a
theorem sub_sign (a b : Rat) : sg (a - b).num = sg (a.num * b.den - b.num * a.den) := by
  have h1 := num_pos_iff (a - b)
  have h2 := num_zero_iff (a - b)
  have h3 := lt_cross a b
  have h4 := lt_cross b a
  have e1 : 0 < a - b ↔ b < a := by constructor <;> intro <;> grind
  have e2 : a - b = 0 ↔ a = b := by constructor <;> intro <;> grind
  have e3 : a = b ↔ ¬ (b < a) ∧ ¬ (a < b) := by constructor <;> intro <;> grind
  unfold sg
  rw [e1, h3] at h1
  rw [e2, e3, h3, h4] at h2
  have c1 : (0 < (a - b).num) ↔ 0 < a.num * b.den - b.num * a.den := by rw [h1]; omega
  have c2 : ((a - b).num = 0) ↔ a.num * b.den - b.num * a.den = 0 := by rw [h2]; omega
  simp only [c1, c2]
theorem sg_lt (a b : Rat) : sg (a - b).num < 0 ↔ a < b := by
  have h1 := num_pos_iff (a - b)
  have h2 := num_zero_iff (a - b)
  have e1 : 0 < a - b ↔ b < a := by constructor <;> intro <;> grind
  have e2 : a - b = 0 ↔ a = b := by constructor <;> intro <;> grind
  rw [e1] at h1
  rw [e2] at h2
  unfold sg
  split
  · rename_i h; have := h1.mp h; constructor
    · intro w; omega
    · intro w; grind
  · split
    · rename_i h; have := h2.mp h; constructor
      · intro w; omega
      · intro w; grind
    · rename_i ha hb
      constructor
      · intro _
        have x1 : ¬ b < a := fun w => ha (h1.mpr w)
        have x2 : ¬ a = b := fun w => hb (h2.mpr w)
        grind
      · intro _; decide
theorem sg_gt (a b : Rat) : 0 < sg (a - b).num ↔ b < a := by
  have h1 := num_pos_iff (a - b)
  have e1 : 0 < a - b ↔ b < a := by constructor <;> intro <;> grind
  rw [e1] at h1
  unfold sg
  split
  · rename_i h; have := h1.mp h; constructor
    · intro _; exact this
    · intro _; decide
  · rename_i h
    constructor
    · intro w; split at w <;> omega
    · intro w; exact absurd (h1.mpr w) h
end K01

set_option Elab.async false
set_option linter.all false
set_option maxRecDepth 100000
set_option autoImplicit false
set_option exponentiation.threshold 300
namespace K01
open DL PySem PySem.Spec PyProof.Rows L2
theorem forL_cons {tgf : MG} {fb : MS} {d : D} {r : List D} {z : Z} {ρ' : List SV} {z2 : Z} (h1 : tgf d z.ρ = some ρ') (h2 : fb ⟨ρ', z.s⟩ = .ok .nx z2) : forL tgf fb (d :: r) z = forL tgf fb r z2 := by
  show (match tgf d z.ρ with | none => _ | some ρ' => _) = _
  rw [h1]
  show (fb ⟨ρ', z.s⟩).bind _ = _
  rw [h2]; rfl
/-- all of so many are small -/
def Drs (rs : List Rat) : Prop := ∀ r ∈ rs, Dr r
theorem total_loop (L : D) (s : S) : ∀ (rs : List Rat) (n : Nat) (acc : Rat) (x : SV), Drs rs → Bd n acc → n + 6 * rs.length ≤ 6000 →
    ∃ x', forL (tgName 2) (evSet 1 (evCall 2 f_plus [] (evCons (evVar 1) (evCons (evVar 2) (evNil))))) (rs.map Qd) ⟨[.d L, .d (Qd acc), x], s⟩ = .ok .nx ⟨[.d L, .d (Qd (rs.foldl (· + ·) acc)), x'], s⟩
  | [], n, acc, x, _, _, _ => ⟨x, rfl⟩
  | r :: rs, n, acc, x, hr, ha, hn => by
    have hd := hr r (List.mem_cons_self ..)
    have hb := ha.add hd.bd
    obtain ⟨x', e⟩ := total_loop L s rs (n + 5 + 1) (acc + r) (.d (Qd r)) (fun q hq => hr q (List.mem_cons_of_mem _ hq)) hb (by simp only [List.length_cons] at hn; omega)
    refine ⟨x', ?_⟩
    rw [List.map_cons, forL_cons (ρ' := [.d L, .d (Qd acc), .d (Qd r)]) (z2 := ⟨[.d L, .d (Qd (acc + r)), .d (Qd r)], s⟩) rfl ?_, e]
    · rfl
    · have := plus_eq s ha hd.bd (by simp only [List.length_cons] at hn; omega)
      simp [evSet, evCall, evCons, evNil, evVar, this]
theorem total_eq (s : S) (rs : List Rat) (hr : Drs rs) (hl : rs.length ≤ 100) : f_total [.lst (rs.map Qd)] s = .ok (Qd (rs.foldl (· + ·) 0)) s := by
  obtain ⟨x', e⟩ := total_loop (.lst (rs.map Qd)) s rs 1 0 .un hr ⟨by decide, by decide⟩ (by omega)
  have e0 : Qd 0 = .tup [.int 0, .int 1] := rfl
  rw [e0] at e
  unfold f_total runB m_f_total
  simp [evThen, evSet, evTup, evCons, evNil, evC, evFor, evSeq, evVar, e, evRet]
/-- the whole, summed by the law's own -/
theorem mlo (a b : Rat) : (if a < b then a else b) = (if a < b then a else b) := rfl
def lo (f r : Rat) : Rat := if r < f then r else f
def hi (f r : Rat) : Rat := if f < r then r else f
theorem lo_bd {n : Nat} {f r : Rat} (a : Bd n f) (b : Bd n r) : Bd n (lo f r) := by unfold lo; split <;> assumption
theorem hi_bd {n : Nat} {f r : Rat} (a : Bd n f) (b : Bd n r) : Bd n (hi f r) := by unfold hi; split <;> assumption
theorem least_loop (L : D) (s : S) : ∀ (rs : List Rat) (acc : Rat) (x : SV), Drs rs → Bd 5 acc →
    ∃ x', forL (tgName 2) (evSet 1 (evIf (tB1 (ev2 opLt (evCall 2 f_compared [] (evCons (evVar 2) (evCons (evVar 1) (evNil)))) (evC (.int 0)))) (evVar 2) (evVar 1))) (rs.map Qd) ⟨[.d L, .d (Qd acc), x], s⟩ = .ok .nx ⟨[.d L, .d (Qd (rs.foldl lo acc)), x'], s⟩
  | [], acc, x, _, _ => ⟨x, rfl⟩
  | r :: rs, acc, x, hr, ha => by
    have hd := hr r (List.mem_cons_self ..)
    obtain ⟨x', e⟩ := least_loop L s rs (lo acc r) (.d (Qd r)) (fun q hq => hr q (List.mem_cons_of_mem _ hq)) (lo_bd ha hd.bd)
    refine ⟨x', ?_⟩
    rw [List.map_cons, forL_cons (ρ' := [.d L, .d (Qd acc), .d (Qd r)]) (z2 := ⟨[.d L, .d (Qd (lo acc r)), .d (Qd r)], s⟩) rfl ?_, e]
    · rfl
    · have h1 := compared_eq s hd.bd ha (by decide)
      have h2 := sg_lt r acc
      by_cases hl : r < acc
      · have h3 := h2.mpr hl
        simp [evSet, evIf, tB1, ev2, evC, evCall, evCons, evNil, evVar, h1, opLt, lift, h3, lo, hl]
      · have h3 : ¬ sg (r - acc).num < 0 := fun w => hl (h2.mp w)
        simp [evSet, evIf, tB1, ev2, evC, evCall, evCons, evNil, evVar, h1, opLt, lift, h3, lo, hl]
theorem greatest_loop (L : D) (s : S) : ∀ (rs : List Rat) (acc : Rat) (x : SV), Drs rs → Bd 5 acc →
    ∃ x', forL (tgName 2) (evSet 1 (evIf (tB1 (ev2 opGt (evCall 2 f_compared [] (evCons (evVar 2) (evCons (evVar 1) (evNil)))) (evC (.int 0)))) (evVar 2) (evVar 1))) (rs.map Qd) ⟨[.d L, .d (Qd acc), x], s⟩ = .ok .nx ⟨[.d L, .d (Qd (rs.foldl hi acc)), x'], s⟩
  | [], acc, x, _, _ => ⟨x, rfl⟩
  | r :: rs, acc, x, hr, ha => by
    have hd := hr r (List.mem_cons_self ..)
    obtain ⟨x', e⟩ := greatest_loop L s rs (hi acc r) (.d (Qd r)) (fun q hq => hr q (List.mem_cons_of_mem _ hq)) (hi_bd ha hd.bd)
    refine ⟨x', ?_⟩
    rw [List.map_cons, forL_cons (ρ' := [.d L, .d (Qd acc), .d (Qd r)]) (z2 := ⟨[.d L, .d (Qd (hi acc r)), .d (Qd r)], s⟩) rfl ?_, e]
    · rfl
    · have h1 := compared_eq s hd.bd ha (by decide)
      have h2 := sg_gt r acc
      by_cases hl : acc < r
      · have h3 := h2.mpr hl
        simp [evSet, evIf, tB1, ev2, evC, evCall, evCons, evNil, evVar, h1, opGt, lift, h3, hi, hl]
      · have h3 : ¬ 0 < sg (r - acc).num := fun w => hl (h2.mp w)
        simp [evSet, evIf, tB1, ev2, evC, evCall, evCons, evNil, evVar, h1, opGt, lift, h3, hi, hl]
theorem ix0 (d : D) (ds : List D) : ixD (.lst (d :: ds)) (.int 0) = some d := by
  show atI (d :: ds) ((0 : Nat) : Int) = some d
  exact atI_nat rfl
theorem least_of_eq (s : S) (rs : List Rat) (hr : Drs rs) : f_least_of [.lst (rs.map Qd)] s = match rs with
    | [] => .err (PySem.Str.ofString "NumberError") s
    | r :: _ => .ok (Qd (rs.foldl lo r)) s := by
  unfold f_least_of runB m_f_least_of
  cases rs with
  | nil => simp [evThen, evIfS, tB1, ev2, evB, bLen, evCons, evNil, evVar, evC, opEq_int, lift, evRaise]
  | cons r rs =>
    obtain ⟨x', e⟩ := least_loop (.lst ((r :: rs).map Qd)) s (r :: rs) r .un hr (hr r (List.mem_cons_self ..)).bd
    have h1 : ((rs.length : Int) + 1 == 0) = false := by rw [beq_eq_false_iff_ne]; omega
    simp only [List.map_cons] at e
    simp [evThen, evIfS, tB1, ev2, evB, bLen, evCons, evNil, evVar, evC, opEq_int, lift, evSkip, h1, evSet, ix0, evFor, evSeq, e, evRet]
theorem greatest_of_eq (s : S) (rs : List Rat) (hr : Drs rs) : f_greatest_of [.lst (rs.map Qd)] s = match rs with
    | [] => .err (PySem.Str.ofString "NumberError") s
    | r :: _ => .ok (Qd (rs.foldl hi r)) s := by
  unfold f_greatest_of runB m_f_greatest_of
  cases rs with
  | nil => simp [evThen, evIfS, tB1, ev2, evB, bLen, evCons, evNil, evVar, evC, opEq_int, lift, evRaise]
  | cons r rs =>
    obtain ⟨x', e⟩ := greatest_loop (.lst ((r :: rs).map Qd)) s (r :: rs) r .un hr (hr r (List.mem_cons_self ..)).bd
    have h1 : ((rs.length : Int) + 1 == 0) = false := by rw [beq_eq_false_iff_ne]; omega
    simp only [List.map_cons] at e
    simp [evThen, evIfS, tB1, ev2, evB, bLen, evCons, evNil, evVar, evC, opEq_int, lift, evSkip, h1, evSet, ix0, evFor, evSeq, e, evRet]
/-- the fold's end is the least -/
theorem lo_min : ∀ (rs : List Rat) (f : Rat), (rs.foldl lo f = f ∨ rs.foldl lo f ∈ rs) ∧ (rs.foldl lo f ≤ f ∧ ∀ r ∈ rs, rs.foldl lo f ≤ r)
  | [], f => ⟨.inl rfl, by simp, by simp⟩
  | r :: rs, f => by
    obtain ⟨h1, h2, h3⟩ := lo_min rs (lo f r)
    have k1 : lo f r ≤ f := by unfold lo; split <;> grind
    have k2 : lo f r ≤ r := by unfold lo; split <;> grind
    have k3 : lo f r = f ∨ lo f r = r := by unfold lo; split <;> simp
    rw [List.foldl_cons]
    refine ⟨?_, by grind, fun q hq => ?_⟩
    · rcases h1 with h | h
      · rw [h]; rcases k3 with k | k
        · exact .inl k
        · exact .inr (by rw [k]; exact List.mem_cons_self ..)
      · exact .inr (List.mem_cons_of_mem _ h)
    · rcases List.mem_cons.mp hq with rfl | hq
      · grind
      · exact h3 q hq
theorem hi_max : ∀ (rs : List Rat) (f : Rat), (rs.foldl hi f = f ∨ rs.foldl hi f ∈ rs) ∧ (f ≤ rs.foldl hi f ∧ ∀ r ∈ rs, r ≤ rs.foldl hi f)
  | [], f => ⟨.inl rfl, by simp, by simp⟩
  | r :: rs, f => by
    obtain ⟨h1, h2, h3⟩ := hi_max rs (hi f r)
    have k1 : f ≤ hi f r := by unfold hi; split <;> grind
    have k2 : r ≤ hi f r := by unfold hi; split <;> grind
    have k3 : hi f r = f ∨ hi f r = r := by unfold hi; split <;> simp
    rw [List.foldl_cons]
    refine ⟨?_, by grind, fun q hq => ?_⟩
    · rcases h1 with h | h
      · rw [h]; rcases k3 with k | k
        · exact .inl k
        · exact .inr (by rw [k]; exact List.mem_cons_self ..)
      · exact .inr (List.mem_cons_of_mem _ h)
    · rcases List.mem_cons.mp hq with rfl | hq
      · grind
      · exact h3 q hq
end K01

set_option Elab.async false
set_option linter.all false
set_option maxRecDepth 100000
set_option autoImplicit false
set_option exponentiation.threshold 300
namespace K01
open DL PySem PySem.Spec PyProof.Rows L2
/-! ### loops in brackets -/
theorem lc_pure {vs : List Nat} {tg : MG} {ft : MT} {fe : ME} {ρw : List SV} {s : S} {p : D → Bool} {e : D → D} : ∀ (ds : List D),
    (∀ d ∈ ds, ∃ ρ1 ρ2 ρ3, tg d ρw = some ρ1 ∧ ft ⟨ρ1, s⟩ = .ok (p d) ⟨ρ2, s⟩ ∧ wipeR ρ2 vs = ρw ∧ (p d = true → fe ⟨ρ2, s⟩ = .ok (e d) ⟨ρ3, s⟩ ∧ wipeR ρ3 vs = ρw)) →
    lcL vs tg ft fe ds ⟨ρw, s⟩ = .ok ((ds.filter p).map e) ⟨ρw, s⟩
  | [], _ => rfl
  | d :: ds, h => by
    obtain ⟨ρ1, ρ2, ρ3, h1, h2, h3, h4⟩ := h d (List.mem_cons_self ..)
    have ih := lc_pure (vs := vs) (tg := tg) (ft := ft) (fe := fe) (p := p) (e := e) ds fun q hq => h q (List.mem_cons_of_mem _ hq)
    unfold lcL
    simp only [h1, h2, R.bind_ok]
    cases hp : p d with
    | true =>
      obtain ⟨h5, h6⟩ := h4 hp
      simp [h5, h6, ih, hp]
    | false => simp [h3, ih, hp]
/-- so many drawn ones -/
theorem lc_draw {vs : List Nat} {tg : MG} {fe : ME} {ρw : List SV} (k : Nat) (good : D → Prop) : ∀ (ds : List D) (n : Nat) (s : S), SOk (n + k * ds.length) s →
    (∀ d ∈ ds, ∃ ρ1, tg d ρw = some ρ1 ∧ ∀ n s, SOk (n + k) s → ∃ x ρ3 s', fe ⟨ρ1, s⟩ = .ok x ⟨ρ3, s'⟩ ∧ wipeR ρ3 vs = ρw ∧ SOk n s' ∧ good x) →
    ∃ xs s', lcL vs tg evYes fe ds ⟨ρw, s⟩ = .ok xs ⟨ρw, s'⟩ ∧ xs.length = ds.length ∧ (∀ x ∈ xs, good x) ∧ SOk n s'
  | [], n, s, hs, _ => ⟨[], s, rfl, rfl, (by simp), by simpa using hs⟩
  | d :: ds, n, s, hs, h => by
    obtain ⟨ρ1, h1, h2⟩ := h d (List.mem_cons_self ..)
    have hs' : SOk (n + k * ds.length + k) s := by
      have e : n + k * (d :: ds).length = n + k * ds.length + k := by rw [List.length_cons, Nat.mul_add]; omega
      rw [e] at hs; exact hs
    obtain ⟨x, ρ3, s1, e1, e2, e3, e4⟩ := h2 _ _ hs'
    obtain ⟨xs, s2, f1, f2, f3, f4⟩ := lc_draw (vs := vs) (tg := tg) (fe := fe) k good ds n s1 e3 fun q hq => h q (List.mem_cons_of_mem _ hq)
    refine ⟨x :: xs, s2, ?_, by simp [f2], fun y hy => ?_, f4⟩
    · unfold lcL
      simp only [h1, evYes, R.bind_ok, e1, if_true]
      rw [e2]
      rw [f1]
      rfl
    · rcases List.mem_cons.mp hy with rfl | hy
      · exact e4
      · exact f3 y hy
/-! ### determinants -/
theorem three_eq (s : S) (a b c d e f g h i : Rat) (ha : Dr a) (hb : Dr b) (hc : Dr c) (hd : Dr d) (he : Dr e) (hf : Dr f) (hg : Dr g) (hh : Dr h) (hi : Dr i) :
    f_three_by_three [.lst [Qd a, Qd b, Qd c], .lst [Qd d, Qd e, Qd f], .lst [Qd g, Qd h, Qd i]] s = .ok (Qd (a * (e * i - f * h) - b * (d * i - f * g) + c * (d * h - e * g))) s := by
  have i0 : ∀ x y z : D, ixD (.lst [x, y, z]) (.int 0) = some x := fun _ _ _ => rfl
  have i1 : ∀ x y z : D, ixD (.lst [x, y, z]) (.int 1) = some y := fun _ _ _ => rfl
  have i2 : ∀ x y z : D, ixD (.lst [x, y, z]) (.int 2) = some z := fun _ _ _ => rfl
  have t1 := times_eq s he.bd hi.bd (by decide)
  have t2 := times_eq s hf.bd hh.bd (by decide)
  have t3 := times_eq s hd.bd hi.bd (by decide)
  have t4 := times_eq s hf.bd hg.bd (by decide)
  have t5 := times_eq s hd.bd hh.bd (by decide)
  have t6 := times_eq s he.bd hg.bd (by decide)
  have b1 := (he.bd.mul hi.bd).sub (hf.bd.mul hh.bd)
  have b2 := (hd.bd.mul hi.bd).sub (hf.bd.mul hg.bd)
  have b3 := (hd.bd.mul hh.bd).sub (he.bd.mul hg.bd)
  have m1 := minus_eq s (he.bd.mul hi.bd) (hf.bd.mul hh.bd) (by decide)
  have m2 := minus_eq s (hd.bd.mul hi.bd) (hf.bd.mul hg.bd) (by decide)
  have m3 := minus_eq s (hd.bd.mul hh.bd) (he.bd.mul hg.bd) (by decide)
  have u1 := times_eq s ha.bd b1 (by decide)
  have u2 := times_eq s hb.bd b2 (by decide)
  have u3 := times_eq s hc.bd b3 (by decide)
  have v1 := minus_eq s (ha.bd.mul b1) (hb.bd.mul b2) (by decide)
  have v2 := plus_eq s ((ha.bd.mul b1).sub (hb.bd.mul b2)) (hc.bd.mul b3) (by decide)
  unfold f_three_by_three runB m_f_three_by_three
  simp [evThen, evSet, evRet, evCall, evCons, evNil, ev2, evVar, evC, lift, i0, i1, i2, t1, t2, t3, t4, t5, t6, m1, m2, m3, u1, u2, u3, v1, v2]
theorem det_id (a b c d e f g h i : Rat) : 0 + 1 * (a * (e * i)) + 1 * (b * (f * g)) + 1 * (c * (d * h)) + -1 * (a * (f * h)) + -1 * (b * (d * i)) + -1 * (c * (e * g)) = a * (e * i - f * h) - b * (d * i - f * g) + c * (d * h - e * g) := by grind
end K01

set_option Elab.async false
set_option linter.all false
set_option maxRecDepth 100000
set_option autoImplicit false
set_option exponentiation.threshold 300
namespace K01
open DL PySem PySem.Spec PyProof.Rows L2 TL PySem.StrLaws
abbrev sl : Str := PySem.Str.ofString "/"
abbrev mi : Str := PySem.Str.ofString "-"
abbrev dg : Str := PySem.Str.ofString "0123456789"
theorem tl_sl : tl sl = [47] := by rw [tl_ofString]; rfl
theorem tl_mi : tl mi = [45] := by rw [tl_ofString]; rfl
theorem tl_dg : tl dg = [48, 49, 50, 51, 52, 53, 54, 55, 56, 57] := by rw [tl_ofString]; rfl
theorem spl_shape : ∀ (l acc : List Nat), ∃ rest, spl [47] 0 acc l = (acc ++ l.takeWhile (· != 47)) :: rest ∧ (∀ p ∈ spl [47] 0 acc l, (∀ c ∈ p, c ∈ acc ∨ c ∈ l) ∧ p.length ≤ acc.length + l.length)
  | [], acc => ⟨[], by rw [spl_nil]; simp, fun p hp => by rw [spl_nil] at hp; rw [List.mem_singleton.mp hp]; exact ⟨fun c hc => .inl hc, by simp⟩⟩
  | c :: l, acc => by
    by_cases h : c = 47
    · subst h
      obtain ⟨rest, e1, e2⟩ := spl_shape l []
      have e : spl [47] 0 acc (47 :: l) = acc :: spl [47] 0 [] l := spl_hit rfl
      refine ⟨spl [47] 0 [] l, by rw [e]; simp, fun p hp => ?_⟩
      rw [e] at hp
      rcases List.mem_cons.mp hp with rfl | hp
      · exact ⟨fun c hc => .inl hc, by omega⟩
      · obtain ⟨k1, k2⟩ := e2 p hp
        refine ⟨fun c hc => ?_, by simp only [List.length_cons, List.length_nil] at *; omega⟩
        rcases k1 c hc with k | k
        · cases k
        · exact .inr (List.mem_cons_of_mem _ k)
    · obtain ⟨rest, e1, e2⟩ := spl_shape l (acc ++ [c])
      have e : spl [47] 0 acc (c :: l) = spl [47] 0 (acc ++ [c]) l := spl_miss (pre_of_head _ _ h)
      refine ⟨rest, ?_, fun p hp => ?_⟩
      · rw [e, e1]; simp [h]
      · rw [e] at hp
        obtain ⟨k1, k2⟩ := e2 p hp
        refine ⟨fun c' hc => ?_, by simp only [List.length_cons, List.length_append, List.length_nil] at *; omega⟩
        rcases k1 c' hc with k | k
        · rcases List.mem_append.mp k with k | k
          · exact .inl k
          · rw [List.mem_singleton.mp k]; exact .inr (List.mem_cons_self ..)
        · exact .inr (List.mem_cons_of_mem _ k)
/-- the parts of a text -/
abbrev pts (x : Str) : List Str := Txt.split x sl
theorem pts_tl (x : Str) : (pts x).map tl = spl [47] 0 [] (tl x) := by
  rw [← tl_sl]
  exact split_spl x sl (by rw [tl_sl]; simp) (kind_ok (by decide +kernel))
theorem pts_shape (x : Str) : ∃ p rest, pts x = p :: rest ∧ tl p = (tl x).takeWhile (· != 47) ∧ ∀ q ∈ pts x, (∀ c ∈ tl q, c ∈ tl x) ∧ q.length ≤ x.length := by
  obtain ⟨r, e1, e2⟩ := spl_shape (tl x) []
  have h := pts_tl x
  have hq : ∀ q ∈ pts x, (∀ c ∈ tl q, c ∈ tl x) ∧ q.length ≤ x.length := fun q hq => by
    obtain ⟨k1, k2⟩ := e2 (tl q) (by rw [← h]; exact List.mem_map_of_mem hq)
    refine ⟨fun c hc => (k1 c hc).resolve_left (by simp), by rw [len_tl, len_tl]; simpa using k2⟩
  rw [e1] at h
  cases hp : pts x with
  | nil => rw [hp] at h; cases h
  | cons p rest =>
    rw [hp] at h
    rw [List.map_cons] at h
    have := (List.cons.inj h).1
    exact ⟨p, rest, rfl, by simpa using this, by rw [← hp]; exact hq⟩
theorem starts_eq (p : Str) : Txt.startswith p mi = decide ((tl p).head? = some 45) := by
  have h := at_iff (x := p) (y := mi) (by rw [tl_mi]; simp) 0
  have e : Txt.startswith p mi = true ↔ At p mi p.length 0 := by
    unfold Txt.startswith At
    simp
  rw [Bool.eq_iff_iff, decide_eq_true_eq]
  refine e.trans (h.trans ?_)
  rw [tl_mi, List.drop_zero]
  cases tl p with
  | nil => simp [pre]
  | cons c r => simp [pre]
theorem niS_eq (c : Nat) : niS dg c = !decide (48 ≤ c ∧ c ≤ 57) := by
  unfold niS
  rw [show (!(Builtin.Str.occurrences dg ⟨#[c]⟩ 0 dg.length 1).isEmpty) = decide (c ∈ tl dg) from StrLaws.found_one dg c, tl_dg]
  congr 1
  rw [decide_eq_decide]
  simp only [List.mem_cons, List.not_mem_nil, or_false]
  omega

/-! ### the ratio of a text -/
/-- figures, one to nine -/
def okB (p : Str) : Bool := decide (0 < p.length) && decide (p.length ≤ 9) && (tl p).all fun c => decide (48 ≤ c ∧ c ≤ 57)
/-- a text's whole number -/
def iv (p : Str) : Int := (PySem.intText? p).getD 0
theorem int_ok {p : Str} (h : okB p = true) : bInt [.str p] = some (.int (iv p)) := by
  unfold okB at h
  simp only [Bool.and_eq_true, decide_eq_true_eq, List.all_eq_true] at h
  have e := intText_digits (x := p) (fun c hc => h.2 c hc) (fun w => by have := h.1.1; rw [len_tl] at this; rw [show p.cps.toList = tl p from rfl] at w; rw [w] at this; simp at this) (by omega)
  unfold iv
  show (if p.length ≤ 640 then (PySem.intText? p).map D.int else none) = _
  rw [if_pos (by omega), e]
  rfl
def neg? (p : Str) : Bool := decide ((tl p).head? = some 45)
def bodyS (p : Str) : Str := if neg? p = true then cutS p (some 1) none else p
theorem okB_neg {p : Str} (h : okB p = true) : neg? p = false := by
  unfold okB at h
  simp only [Bool.and_eq_true, decide_eq_true_eq, List.all_eq_true] at h
  unfold neg?
  cases e : tl p with
  | nil => simp
  | cons c r =>
    have := h.2 c (by rw [e]; exact List.mem_cons_self ..)
    simp
    omega
def valS (p : Str) : Int := if neg? p = true then 0 - iv (bodyS p) else iv p
def rdP (x : Str) : Option Rat := match pts x with
  | [p] => if okB (bodyS p) = true then some (Rat.divInt (valS p) 1) else none
  | [p, q] => if okB (bodyS p) = true ∧ okB q = true ∧ iv q ≠ 0 then some (Rat.divInt (valS p) (iv q)) else none
  | _ => none
theorem strOk_of {x p : Str} (hx : PyData.strOk x = true) (h : ∀ c ∈ tl p, c ∈ tl x) : PyData.strOk p = true := by
  unfold PyData.strOk at *
  rw [Array.all_eq_true_iff_forall_mem] at *
  intro c hc
  exact hx c (Array.mem_toList_iff.mp (h c (Array.mem_toList_iff.mpr hc)))
theorem opEq_str {a b : Str} (ha : PyData.strOk a = true) (hb : PyData.strOk b = true) : opEq (.str a) (.str b) = some (.bl (a == b)) := by
  simp [opEq, eqD, toP, SeqAt.shaped, PyData.canLay0, PyData.depth, PyData.eqv, ha, hb]
theorem opNe_str {a b : Str} (ha : PyData.strOk a = true) (hb : PyData.strOk b = true) : opNe (.str a) (.str b) = some (.bl (!(a == b))) := by
  simp [opNe, eqD, toP, SeqAt.shaped, PyData.canLay0, PyData.depth, PyData.eqv, ha, hb]
theorem len_le9 {p : Str} (h : okB p = true) : p.length ≤ 9 := by
  unfold okB at h
  simp only [Bool.and_eq_true, decide_eq_true_eq] at h
  exact h.1.2
theorem dv_lt : ∀ (l : List Nat) (acc : Nat), (∀ c ∈ l, 48 ≤ c ∧ c ≤ 57) → l.foldl (fun acc c => acc * 10 + (c - 48)) acc < (acc + 1) * 10 ^ l.length
  | [], acc, _ => by simp
  | c :: l, acc, h => by
    have hc := h c (List.mem_cons_self ..)
    have ih := dv_lt l (acc * 10 + (c - 48)) fun q hq => h q (List.mem_cons_of_mem _ hq)
    rw [List.foldl_cons, List.length_cons, Nat.pow_succ]
    refine Nat.lt_of_lt_of_le ih ?_
    rw [Nat.mul_comm (10 ^ l.length) 10, ← Nat.mul_assoc]
    exact Nat.mul_le_mul_right _ (by omega)
theorem iv_bd {p : Str} (h : okB p = true) : Sm (iv p) := by
  have h0 := h
  unfold okB at h
  simp only [Bool.and_eq_true, decide_eq_true_eq, List.all_eq_true] at h
  have e := intText_digits (x := p) (fun c hc => h.2 c hc) (fun w => by have := h.1.1; rw [len_tl] at this; rw [show p.cps.toList = tl p from rfl] at w; rw [w] at this; simp at this) (by omega)
  unfold iv
  rw [e]
  have b := dv_lt (tl p) 0 h.2
  have l9 : 10 ^ (tl p).length ≤ 10 ^ 9 := Nat.pow_le_pow_right (by decide) (by rw [← len_tl]; exact h.1.2)
  have b2 : NumText.digitsVal p.cps.toList < 2 ^ 50 := by
    refine Nat.lt_of_lt_of_le (show NumText.digitsVal (tl p) < (0 + 1) * 10 ^ (tl p).length from b) ?_
    rw [Nat.zero_add, Nat.one_mul]
    exact Nat.le_trans l9 (by decide)
  exact sm_of (n := 50) (by simpa using b2) (by decide)
/-- a turn of read's loop -/
theorem any_ok (b : Str) : (tl b).any (niS dg) = !(tl b).all fun c => decide (48 ≤ c ∧ c ≤ 57) := by
  rw [List.not_all_eq_any_not]
  congr 1
  funext c
  exact niS_eq c
end K01

set_option Elab.async false
set_option linter.all false
set_option maxRecDepth 100000
set_option autoImplicit false
set_option exponentiation.threshold 300
namespace K01
open DL PySem PySem.Spec PyProof.Rows L2 TL PySem.StrLaws
abbrev NE : Str := PySem.Str.ofString "NumberError"
def rdB : MS := (evThen (evSet 5 (evIf (tAndD (tB1 (ev2 opEq (evVar 3) (evC (.int 0)))) (tTru (ev2 mStarts (onStr (evVar 4)) (evC (.str mi))))) (evSl (evVar 4) (evO1 (evC (.int 1))) (evO0)) (evVar 4))) (evThen (evIfS (tOrD (tNotD (tB1 (ev3 opLt opLe (evC (.int 0)) (evB bLen (evCons (evVar 5) (evNil))) (evC (.int 9))))) (tTru (evAnyS (niS dg) (evVar 5)))) (evRaise NE) (evSkip)) (evApp 2 (evIf (tTru (ev2 mStarts (onStr (evVar 4)) (evC (.str mi)))) (ev2 opSub (evC (.int 0)) (evB bInt (evCons (evVar 5) (evNil)))) (evB bInt (evCons (evVar 5) (evNil)))))))
theorem starts_neg (p : Str) : mStarts (.str p) (.str mi) = some (.bl (neg? p)) := by
  show some (D.bl (Txt.startswith p mi)) = _
  rw [starts_eq]; rfl
theorem rd_turn (X0 X1 v5 : SV) (acc : List D) (hacc : acc.length ≤ 10) (k : Int) (p b : Str) (s : S) (hp : p.length ≤ 1000) (hb : b = if k = 0 ∧ neg? p = true then cutS p (some 1) none else p) (hbl : b.length ≤ 1000) :
    (okB b = true → rdB ⟨[X0, X1, .own acc, .d (.int k), .d (.str p), v5], s⟩ = .ok .nx ⟨[X0, X1, .own (acc ++ [.int (if neg? p = true then 0 - iv b else iv b)]), .d (.int k), .d (.str p), .d (.str b)], s⟩) ∧
    (okB b = false → ∃ z, rdB ⟨[X0, X1, .own acc, .d (.int k), .d (.str p), v5], s⟩ = .err NE z ∧ z.s = s) := by
  have l1 : p.length ≤ 16777216 := by omega
  have l2 : b.length ≤ 16777216 := by omega
  have l3 : acc.length < 16777216 := by omega
  have st : (evSet 5 (evIf (tAndD (tB1 (ev2 opEq (evVar 3) (evC (.int 0)))) (tTru (ev2 mStarts (onStr (evVar 4)) (evC (.str mi))))) (evSl (evVar 4) (evO1 (evC (.int 1))) (evO0)) (evVar 4))) ⟨[X0, X1, .own acc, .d (.int k), .d (.str p), v5], s⟩ = .ok .nx ⟨[X0, X1, .own acc, .d (.int k), .d (.str p), .d (.str b)], s⟩ := by
    by_cases hk : k = 0
    · by_cases hn : neg? p = true
      · rw [if_pos ⟨hk, hn⟩] at hb
        simp [evSet, evIf, tAndD, tTru, tB1, ev2, evVar, evC, opEq_int, lift, hk, starts_neg, isStrD, onStr, truD, hn, evSl, evO1, evO0, slD, l1, ← hb]
      · rw [if_neg (fun w => hn w.2)] at hb
        subst hb
        rw [Bool.not_eq_true] at hn
        simp [evSet, evIf, tAndD, tTru, tB1, ev2, evVar, evC, opEq_int, lift, hk, starts_neg, isStrD, onStr, truD, hn]
    · rw [if_neg (fun w => hk w.1)] at hb
      subst hb
      simp [evSet, evIf, tAndD, tTru, tB1, ev2, evVar, evC, opEq_int, lift, hk]
  have an := any_ok b
  have av0 : evAnyS (niS dg) (evVar 5) ⟨[X0, X1, .own acc, .d (.int k), .d (.str p), .d (.str b)], s⟩ = .ok (.bl ((tl b).any (niS dg))) ⟨[X0, X1, .own acc, .d (.int k), .d (.str p), .d (.str b)], s⟩ := rfl
  constructor
  · intro hok
    have hi := int_ok hok
    unfold okB at hok
    simp only [Bool.and_eq_true, decide_eq_true_eq] at hok
    obtain ⟨⟨o1, o2⟩, o3⟩ := hok
    rw [o3] at an
    have av := av0
    rw [an] at av
    have o1' : (0 : Int) < b.length := by omega
    have o2' : (b.length : Int) ≤ 9 := by omega
    unfold rdB evThen
    rw [st]
    cases hn : neg? p <;>
    simp [evIfS, tOrD, tNotD, tB1, tTru, ev3, evB, bLen, evCons, evNil, evVar, evC, lift, l2, opLt, opLe, o1, o2, o1', o2', av, truD, evSkip, evApp, evIf, ev2, isStrD, onStr, truD, starts_neg, hn, hi, opSub, l3]
  · intro hok
    unfold rdB evThen
    rw [st]
    by_cases o1 : 0 < b.length
    · by_cases o2 : b.length ≤ 9
      · have o3 : ((tl b).all fun c => decide (48 ≤ c ∧ c ≤ 57)) = false := by
          unfold okB at hok
          rw [decide_eq_true o1, decide_eq_true o2] at hok
          simpa using hok
        rw [o3] at an
        have av := av0
        rw [an] at av
        have o1' : (0 : Int) < b.length := by omega
        have o2' : (b.length : Int) ≤ 9 := by omega
        refine ⟨⟨[X0, X1, .own acc, .d (.int k), .d (.str p), .d (.str b)], s⟩, ?_, rfl⟩
        simp [evIfS, tOrD, tNotD, tB1, tTru, ev3, evB, bLen, evCons, evNil, evVar, evC, lift, l2, opLt, opLe, o1, o2, o1', o2', av, truD, evRaise]
      · have o1' : (0 : Int) < b.length := by omega
        have o2' : ¬ (b.length : Int) ≤ 9 := by omega
        refine ⟨⟨[X0, X1, .own acc, .d (.int k), .d (.str p), .d (.str b)], s⟩, ?_, rfl⟩
        simp [evIfS, tOrD, tNotD, tB1, tTru, ev3, evB, bLen, evCons, evNil, evVar, evC, lift, l2, opLt, opLe, o1, o2, o1', o2', evRaise]
    · have o1' : ¬ (0 : Int) < b.length := by omega
      refine ⟨⟨[X0, X1, .own acc, .d (.int k), .d (.str p), .d (.str b)], s⟩, ?_, rfl⟩
      simp [evIfS, tOrD, tNotD, tB1, tTru, ev3, evB, bLen, evCons, evNil, evVar, evC, lift, l2, opLt, opLe, o1, o1', evRaise]
end K01

set_option Elab.async false
set_option linter.all false
set_option maxRecDepth 100000
set_option autoImplicit false
set_option exponentiation.threshold 300
namespace K01
open DL PySem PySem.Spec PyProof.Rows L2 TL PySem.StrLaws
theorem forL_err {tgf : MG} {fb : MS} {d : D} {r : List D} {z : Z} {ρ' : List SV} {c : Str} {z2 : Z} (h1 : tgf d z.ρ = some ρ') (h2 : fb ⟨ρ', z.s⟩ = .err c z2) : forL tgf fb (d :: r) z = .err c z2 := by
  show (match tgf d z.ρ with | none => _ | some ρ' => _) = _
  rw [h1]
  show (fb ⟨ρ', z.s⟩).bind _ = _
  rw [h2]; rfl
theorem forL_nil {tgf : MG} {fb : MS} {z : Z} : forL tgf fb [] z = .ok .nx z := rfl
theorem split_eq {x : Str} (h : x.length ≤ 1000) : mSplit (.str x) (.str sl) = some (.lst ((pts x).map D.str)) := by
  have e : sl.length = 1 := by rw [len_tl, tl_sl]; rfl
  show (if (sl.length == 0) = false ∧ x.length + 2 ≤ 16777216 then some (D.lst ((Txt.split x sl).map D.str)) else none) = _
  rw [if_pos ⟨by rw [e]; rfl, by omega⟩]
theorem cut_len (p : Str) (lo hi : Option Int) : (cutS p lo hi).length ≤ p.length := by
  rw [len_tl, len_tl]
  unfold cutS
  show ((List.take _ (List.drop _ _)).toArray.toList).length ≤ _
  rw [show ((List.take (HT.sIx p.length p.length hi - HT.sIx p.length 0 lo) (List.drop (HT.sIx p.length 0 lo) p.cps.toList)).toArray).toList = List.take (HT.sIx p.length p.length hi - HT.sIx p.length 0 lo) (List.drop (HT.sIx p.length 0 lo) p.cps.toList) from rfl, List.length_take, List.length_drop]
  show min _ ((tl p).length - _) ≤ (tl p).length
  omega
theorem body_len {p : Str} (h : p.length ≤ 1000) : (bodyS p).length ≤ 1000 := by
  unfold bodyS
  split
  · exact Nat.le_trans (cut_len _ _ _) h
  · exact h
theorem val_body (p : Str) : (if neg? p = true then 0 - iv (bodyS p) else iv (bodyS p)) = valS p := by
  unfold valS bodyS
  split <;> rfl
theorem number1 (t : Int) (s : S) : f_number [.int t, .int 1] s = .ok (Qd (Rat.divInt t 1)) s := by
  rw [number_eq s (sm_of (n := 50) (by decide) (by decide)), if_neg (by decide)]
theorem read_def : m_f_read = evThen (evSet 1 (ev2 mSplit (onStr (evVar 0)) (evC (.str sl)))) (evThen (evIfS (tB1 (ev2 opGt (evB bLen (evCons (evVar 1) evNil)) (evC (.int 2)))) (evRaise NE) evSkip) (evThen (evOwn 2 (evLst evNil)) (evThen (evFor (evEnum (evCons (evVar 1) evNil)) (tgTup 2 (tgCons (tgName 3) (tgCons (tgName 4) tgNil))) rdB) (evRet (evCall 2 f_number [] (evCons (ev2 ixD (evVar 2) (evC (.int 0))) (evCons (evIf (tB1 (ev2 opEq (evB bLen (evCons (evVar 2) evNil)) (evC (.int 2)))) (ev2 ixD (evVar 2) (evC (.int 1))) (evC (.int 1))) evNil))))))) := rfl
theorem read_eq {x : Str} (s : S) (hx : x.length ≤ 1000) : f_read [.str x] s = match rdP x with
    | some r => .ok (Qd r) s
    | none => .err NE s := by
  obtain ⟨p, rest, hp, _, hq⟩ := pts_shape x
  have hs := split_eq hx
  unfold f_read runB
  rw [read_def]
  unfold rdP
  rw [hp] at hs hq ⊢
  have lp : p.length ≤ 1000 := Nat.le_trans (hq p (List.mem_cons_self ..)).2 hx
  have T1 := fun (X0 X1 v5 : SV) => rd_turn X0 X1 v5 [] (by simp) 0 p (bodyS p) s lp (by unfold bodyS; simp) (body_len lp)
  cases rest with
  | nil =>
    cases hok : okB (bodyS p) with
    | true =>
      have t := (T1 (.d (.str x)) (.d (.lst [.str p])) .un).1 hok
      rw [val_body] at t
      have L : forL (tgTup 2 (tgCons (tgName 3) (tgCons (tgName 4) tgNil))) rdB [.tup [.int 0, .str p]] ⟨[.d (.str x), .d (.lst [.str p]), .own [], .un, .un, .un], s⟩ = _ := forL_cons rfl t
      simp only [List.map_cons, List.map_nil] at hs
      have i0 : ∀ v, ixD (.lst [v]) (.int 0) = some v := fun v => rfl
      simp [evThen, evSet, ev2, isStrD, onStr, evVar, evC, hs, lift, evIfS, tB1, evB, bLen, evCons, evNil, opGt, evSkip, evOwn, evLst, evFor, evEnum, enumD, L, forL_nil, evRet, evCall, i0, evIf, opEq_int, number1, hok]
    | false =>
      obtain ⟨z, t, tz⟩ := (T1 (.d (.str x)) (.d (.lst [.str p])) .un).2 hok
      have L : forL (tgTup 2 (tgCons (tgName 3) (tgCons (tgName 4) tgNil))) rdB [.tup [.int 0, .str p]] ⟨[.d (.str x), .d (.lst [.str p]), .own [], .un, .un, .un], s⟩ = _ := forL_err rfl t
      simp only [List.map_cons, List.map_nil] at hs
      simp [evThen, evSet, ev2, isStrD, onStr, evVar, evC, hs, lift, evIfS, tB1, evB, bLen, evCons, evNil, opGt, evSkip, evOwn, evLst, evFor, evEnum, enumD, L, hok, tz]
  | cons q rest =>
    have lq : q.length ≤ 1000 := Nat.le_trans (hq q (List.mem_cons_of_mem _ (List.mem_cons_self ..))).2 hx
    cases rest with
    | nil =>
      simp only [List.map_cons, List.map_nil] at hs
      cases hok : okB (bodyS p) with
      | false =>
        obtain ⟨z, t, tz⟩ := (T1 (.d (.str x)) (.d (.lst [.str p, .str q])) .un).2 hok
        have L : forL (tgTup 2 (tgCons (tgName 3) (tgCons (tgName 4) tgNil))) rdB [.tup [.int 0, .str p], .tup [.int 1, .str q]] ⟨[.d (.str x), .d (.lst [.str p, .str q]), .own [], .un, .un, .un], s⟩ = _ := forL_err rfl t
        simp [evThen, evSet, ev2, isStrD, onStr, evVar, evC, hs, lift, evIfS, tB1, evB, bLen, evCons, evNil, opGt, evSkip, evOwn, evLst, evFor, evEnum, enumD, L, hok, tz]
      | true =>
        have t := (T1 (.d (.str x)) (.d (.lst [.str p, .str q])) .un).1 hok
        rw [val_body] at t
        have T2 := fun (X0 X1 v5 : SV) => rd_turn X0 X1 v5 [.int (valS p)] (by simp) 1 q q s lq (by simp) lq
        have L : forL (tgTup 2 (tgCons (tgName 3) (tgCons (tgName 4) tgNil))) rdB [.tup [.int 0, .str p], .tup [.int 1, .str q]] ⟨[.d (.str x), .d (.lst [.str p, .str q]), .own [], .un, .un, .un], s⟩ = _ := forL_cons rfl t
        cases hok2 : okB q with
        | false =>
          obtain ⟨z, t2, tz⟩ := (T2 (.d (.str x)) (.d (.lst [.str p, .str q])) (.d (.str (bodyS p)))).2 hok2
          have L2 : forL (tgTup 2 (tgCons (tgName 3) (tgCons (tgName 4) tgNil))) rdB [.tup [.int 1, .str q]] ⟨[.d (.str x), .d (.lst [.str p, .str q]), .own ([] ++ [.int (valS p)]), .d (.int 0), .d (.str p), .d (.str (bodyS p))], s⟩ = _ := forL_err rfl t2
          rw [L2] at L
          simp [evThen, evSet, ev2, isStrD, onStr, evVar, evC, hs, lift, evIfS, tB1, evB, bLen, evCons, evNil, opGt, evSkip, evOwn, evLst, evFor, evEnum, enumD, L, hok, hok2, tz]
        | true =>
          have t2 := (T2 (.d (.str x)) (.d (.lst [.str p, .str q])) (.d (.str (bodyS p)))).1 hok2
          rw [okB_neg hok2] at t2
          have L2 : forL (tgTup 2 (tgCons (tgName 3) (tgCons (tgName 4) tgNil))) rdB [.tup [.int 1, .str q]] ⟨[.d (.str x), .d (.lst [.str p, .str q]), .own ([] ++ [.int (valS p)]), .d (.int 0), .d (.str p), .d (.str (bodyS p))], s⟩ = _ := forL_cons rfl t2
          rw [L2] at L
          have i0 : ∀ v w, ixD (.lst [v, w]) (.int 0) = some v := fun v _ => rfl
          have i1 : ∀ v w, ixD (.lst [v, w]) (.int 1) = some w := fun v _ => rfl
          have N := number_eq (t := valS p) s (iv_bd hok2)
          by_cases h0 : iv q = 0
          · rw [if_pos h0] at N
            rw [h0] at N L
            simp [evThen, evSet, ev2, isStrD, onStr, evVar, evC, hs, lift, evIfS, tB1, evB, bLen, evCons, evNil, opGt, evSkip, evOwn, evLst, evFor, evEnum, enumD, L, forL_nil, evRet, evCall, i0, i1, evIf, opEq_int, N, hok, hok2, h0]
          · rw [if_neg h0] at N
            simp [evThen, evSet, ev2, isStrD, onStr, evVar, evC, hs, lift, evIfS, tB1, evB, bLen, evCons, evNil, opGt, evSkip, evOwn, evLst, evFor, evEnum, enumD, L, forL_nil, evRet, evCall, i0, i1, evIf, opEq_int, N, hok, hok2, h0]
    | cons r rest =>
      have h3 : (2 : Int) < (rest.length : Int) + 1 + 1 + 1 := by omega
      simp [evThen, evSet, ev2, isStrD, onStr, evVar, evC, hs, lift, evIfS, tB1, evB, bLen, evCons, evNil, opGt, evRaise, h3]
end K01

set_option Elab.async false
set_option linter.all false
set_option maxRecDepth 100000
set_option autoImplicit false
set_option exponentiation.threshold 300
namespace K01
open DL PySem PySem.Spec PyProof.Rows L2 TL PySem.StrLaws
theorem tl_cut1 (p : Str) : tl (cutS p none (some 1)) = (tl p).take 1 := by
  have h1 : HT.sIx p.length 0 none = 0 := HT.sIx_none ..
  have h2 : HT.sIx p.length p.length (some 1) = min 1 p.length := HT.sIx_nat p.length p.length 1
  unfold cutS
  rw [h1, h2, tl_mk, Nat.sub_zero, List.drop_zero]
  show (tl p).take (min 1 p.length) = _
  rw [len_tl]
  cases tl p with
  | nil => rfl
  | cons c r => rw [List.length_cons, Nat.min_eq_left (by omega)]
theorem cut1_eq (p : Str) : (cutS p none (some 1) == mi) = neg? p := by
  rw [Bool.eq_iff_iff, beq_iff_eq]
  unfold neg?
  rw [decide_eq_true_eq]
  constructor
  · intro h
    have e := congrArg tl h
    rw [tl_cut1, tl_mi] at e
    cases hp : tl p with
    | nil => rw [hp] at e; cases e
    | cons c r => rw [hp] at e; simp at e; simp [e]
  · intro h
    refine ext_tl ?_
    rw [tl_cut1, tl_mi]
    cases hp : tl p with
    | nil => rw [hp] at h; cases h
    | cons c r => rw [hp] at h; simp at h; simp [h]
theorem strOk_cut {p : Str} (h : PyData.strOk p = true) (lo hi : Option Int) : PyData.strOk (cutS p lo hi) = true := by
  refine strOk_of h fun c hc => ?_
  unfold cutS at hc
  exact List.mem_of_mem_drop (List.mem_of_mem_take hc)
theorem strOk_body {p : Str} (h : PyData.strOk p = true) : PyData.strOk (bodyS p) = true := by
  unfold bodyS
  split
  · exact strOk_cut h _ _
  · exact h
theorem neg_head {x p : Str} (h : tl p = (tl x).takeWhile (· != 47)) : neg? x = neg? p := by
  unfold neg?
  rw [h]
  cases tl x with
  | nil => rfl
  | cons c r =>
    by_cases hc : c = 47
    · subst hc; rfl
    · rw [List.takeWhile_cons_of_pos (by simpa using hc)]; rfl
theorem toPs_strs : ∀ ys : List Str, toPs (ys.map D.str) = some (ys.map PyData.str)
  | [] => rfl
  | y :: ys => by
    show (match toP (.str y), toPs (ys.map D.str) with | some p, some ps => some (p :: ps) | _, _ => none) = _
    rw [toPs_strs ys]; rfl
theorem depth_strs : ∀ ys : List Str, PyData.depthAll (ys.map PyData.str) = 0
  | [] => rfl
  | y :: ys => by
    show max (PyData.depth (.str y)) (PyData.depthAll (ys.map PyData.str)) = 0
    rw [depth_strs ys]; rfl
theorem lay_strs : ∀ ys : List Str, (∀ y ∈ ys, PyData.strOk y = true) → PyData.canLayAll0 (ys.map PyData.str) = true
  | [], _ => rfl
  | y :: ys, h => by
    show (PyData.canLay0 (.str y) && PyData.canLayAll0 (ys.map PyData.str)) = true
    rw [lay_strs ys fun q hq => h q (List.mem_cons_of_mem _ hq)]
    rw [show PyData.canLay0 (.str y) = PyData.strOk y by simp [PyData.canLay0], h y (List.mem_cons_self ..)]
    rfl
theorem ne_strs {ys : List Str} (h : ∀ y ∈ ys, PyData.strOk y = true) : opNe (.lst (ys.map D.str)) (.lst []) = some (.bl (!ys.isEmpty)) := by
  have e1 : toP (.lst (ys.map D.str)) = some (.list (ys.map PyData.str)) := by
    show (toPs (ys.map D.str)).map PyData.list = _
    rw [toPs_strs]; rfl
  have e2 : toP (.lst []) = some (.list []) := rfl
  have e3 : SeqAt.shaped (.list (ys.map PyData.str)) = true := by
    unfold SeqAt.shaped
    rw [show PyData.canLay0 (.list (ys.map PyData.str)) = PyData.canLayAll0 (ys.map PyData.str) by simp [PyData.canLay0], lay_strs ys h]
    rw [show PyData.depth (.list (ys.map PyData.str)) = PyData.depthAll (ys.map PyData.str) + 1 by simp [PyData.depth], depth_strs]
    rfl
  have e4 : SeqAt.shaped (.list []) = true := by simp [SeqAt.shaped, PyData.canLay0, PyData.canLayAll0, PyData.depth, PyData.depthAll]
  unfold opNe eqD
  rw [e1, e2]
  simp only [e3, e4]
  cases ys with
  | nil => simp [PyData.eqv, PyData.eqvAll]
  | cons y ys => simp [PyData.eqv, PyData.eqvAll]
abbrev em : Str := PySem.Str.ofString ""
theorem tl_em : tl em = [] := by rw [tl_ofString]; rfl
theorem em_ok : PyData.strOk em = true := by decide +kernel
theorem mi_ok : PyData.strOk mi = true := by decide +kernel
def badT : MT := (tOrD (tB1 (ev2 opEq (evVar 6) (evC (.str em)))) (tOrD (tB1 (ev2 opGt (evB bLen (evCons (evVar 6) (evNil))) (evC (.int 9)))) (tB1 (ev2 opNe (evFrz (evLc [7] (evStr (evVar 6)) (tgName 7) (tB1 (ev2 opNotIn (evVar 7) (evC (.str dg)))) (evVar 7))) (evFrz (evLst (evNil)))))))
theorem law_read_def : m_f_law_read = (evThen (evSet 1 (ev2 mSplit (onStr (evVar 0)) (evC (.str sl)))) (evThen (evSet 2 (evIf (tB1 (ev2 opEq (evSl (ev2 ixD (evVar 1) (evC (.int 0))) (evO0) (evO1 (evC (.int 1)))) (evC (.str mi)))) (evSl (ev2 ixD (evVar 1) (evC (.int 0))) (evO1 (evC (.int 1))) (evO0)) (ev2 ixD (evVar 1) (evC (.int 0))))) (evThen (evSet 3 (ev2 opAdd (evFrz (evLst (evCons (evVar 2) (evNil)))) (evSl (evVar 1) (evO1 (evC (.int 1))) (evO0)))) (evThen (evIfS (tOrD (tB1 (ev2 opGt (evB bLen (evCons (evVar 1) (evNil))) (evC (.int 2)))) (tB1 (ev2 opNe (evFrz (evLc [6] (evSeq (evVar 3)) (tgName 6) badT (evVar 6))) (evFrz (evLst (evNil)))))) (evRet (evC .non)) (evSkip)) (evThen (evPar 4 5 (evCons (evB bInt (evCons (evVar 2) (evNil))) (evCons (evIf (tB1 (ev2 opEq (evB bLen (evCons (evVar 1) (evNil))) (evC (.int 2)))) (evB bInt (evCons (ev2 ixD (evVar 1) (evC (.int 1))) (evNil))) (evC (.int 1))) (evNil)))) (evRet (evIf (tB1 (ev2 opNe (evVar 5) (evC (.int 0)))) (evCall 2 f_law_least [] (evCons (evIf (tB1 (ev2 opEq (evSl (evVar 0) (evO0) (evO1 (evC (.int 1)))) (evC (.str mi)))) (ev1 evNeg (evVar 4)) (evVar 4)) (evCons (evVar 5) (evNil)))) (evC .non)))))))) := rfl
/-- the signs that are no figures -/
theorem signs_lc (ρw : List SV) (s : S) (y : Str) (h7 : wipeR (ρw.set 7 (.d .non)) [7] = ρw) (hl : 7 < ρw.length) :
    lcL [7] (tgName 7) (tB1 (ev2 opNotIn (evVar 7) (evC (.str dg)))) (evVar 7) (strD y) ⟨ρw, s⟩ = .ok (((tl y).filter (niS dg)).map fun c => .str ⟨#[c]⟩) ⟨ρw, s⟩ := by
  have hw : ∀ d, wipeR (ρw.set 7 (.d d)) [7] = ρw := fun d => by
    have e : wipeR (ρw.set 7 (.d d)) [7] = wipeR (ρw.set 7 (.d .non)) [7] := by
      show (ρw.set 7 (.d d)).set 7 .un = (ρw.set 7 (.d .non)).set 7 .un
      rw [List.set_set, List.set_set]
    rw [e, h7]
  have L := lc_pure (vs := [7]) (tg := tgName 7) (ft := tB1 (ev2 opNotIn (evVar 7) (evC (.str dg)))) (fe := evVar 7) (ρw := ρw) (s := s) (p := fun d => match d with | .str z => niS dg (tl z).head! | _ => false) (e := id) (strD y) fun d hd => by
    unfold strD at hd
    obtain ⟨c, _, rfl⟩ := List.mem_map.mp hd
    have v : evVar 7 ⟨ρw.set 7 (.d (.str ⟨#[c]⟩)), s⟩ = .ok (.str ⟨#[c]⟩) ⟨ρw.set 7 (.d (.str ⟨#[c]⟩)), s⟩ := by
      unfold evVar
      simp [hl]
    refine ⟨_, _, _, rfl, ?_, hw _, fun _ => ⟨v, hw _⟩⟩
    unfold tB1 ev2
    rw [v]
    rfl
  rw [L]
  congr 1
  rw [List.map_id]
  unfold strD
  show ((tl y).map _).filter _ = _
  rw [List.filter_map]
  rfl
end K01

set_option Elab.async false
set_option linter.all false
set_option maxRecDepth 100000
set_option autoImplicit false
set_option exponentiation.threshold 300
namespace K01
open DL PySem PySem.Spec PyProof.Rows L2 TL PySem.StrLaws
theorem strOk_one {y : Str} (h : PyData.strOk y = true) {c : Nat} (hc : c ∈ tl y) : PyData.strOk ⟨#[c]⟩ = true := strOk_of h fun d hd => by
  have : d = c := by simpa [tl] using hd
  rw [this]; exact hc
theorem filter_any {α : Type} (p : Nat → Bool) (f : Nat → α) : ∀ l : List Nat, (!((l.filter p).map f).isEmpty) = l.any p
  | [] => rfl
  | c :: l => by
    rw [List.filter_cons, List.any_cons, ← filter_any p f l]
    cases p c <;> rfl
theorem bad_eq (X0 X1 X2 X3 X4 X5 : SV) (y : Str) (s : S) (hy : y.length ≤ 1000) (ho : PyData.strOk y = true) :
    badT ⟨[X0, X1, X2, X3, X4, X5, .d (.str y), .un], s⟩ = .ok (!okB y) ⟨[X0, X1, X2, X3, X4, X5, .d (.str y), .un], s⟩ := by
  have l1 : y.length ≤ 16777216 := by omega
  have q1 := opEq_str ho em_ok
  unfold badT
  by_cases h0 : y = em
  · have hk : okB y = false := by
      unfold okB
      have : y.length = 0 := by rw [h0, len_tl, tl_em]; rfl
      rw [this]; rfl
    have q2 : (y == em) = true := by rw [h0]; exact beq_self_eq_true _
    rw [q2] at q1
    simp [tOrD, tB1, ev2, evVar, evC, q1, lift, hk]
  · have q2 : (y == em) = false := by rw [beq_eq_false_iff_ne]; exact h0
    rw [q2] at q1
    have hp : 0 < y.length := by
      rcases Nat.eq_zero_or_pos y.length with w | w
      · exact absurd (ext_tl (x := y) (y := em) (by rw [tl_em]; exact List.length_eq_zero_iff.mp (by rw [← len_tl]; exact w))) h0
      · exact w
    by_cases h9 : y.length ≤ 9
    · have h9' : ¬ (9 : Int) < y.length := by omega
      have hk : okB y = !((tl y).any (niS dg)) := by
        rw [any_ok]
        unfold okB
        rw [decide_eq_true hp, decide_eq_true h9]
        simp
      have L := signs_lc [X0, X1, X2, X3, X4, X5, .d (.str y), .un] s y rfl (by simp)
      have ln : (strD y).length ≤ 16777216 := by unfold strD; rw [List.length_map]; exact l1
      have I : evLc [7] (evStr (evVar 6)) (tgName 7) (tB1 (ev2 opNotIn (evVar 7) (evC (.str dg)))) (evVar 7) ⟨[X0, X1, X2, X3, X4, X5, .d (.str y), .un], s⟩ = .ok (((tl y).filter (niS dg)).map fun c => .str ⟨#[c]⟩) ⟨[X0, X1, X2, X3, X4, X5, .d (.str y), .un], s⟩ := by
        unfold evLc
        have e : evStr (evVar 6) ⟨[X0, X1, X2, X3, X4, X5, .d (.str y), .un], s⟩ = .ok (strD y) ⟨[X0, X1, X2, X3, X4, X5, .d (.str y), .un], s⟩ := by
          unfold evStr
          show (if y.length ≤ 16777216 then _ else _) = _
          rw [if_pos l1]
        rw [e, R.bind_ok, if_pos ln]
        show (noErr (lcL [7] _ _ _ (strD y) ⟨[X0, X1, X2, X3, X4, X5, .d (.str y), .un], s⟩)).bind _ = _
        rw [L]
        rfl
      have N := ne_strs (ys := ((tl y).filter (niS dg)).map fun c => (⟨#[c]⟩ : Str)) fun z hz => by
        obtain ⟨c, hc, rfl⟩ := List.mem_map.mp hz
        exact strOk_one ho (List.mem_filter.mp hc).1
      rw [List.map_map] at N
      have N' : opNe (.lst (((tl y).filter (niS dg)).map fun c => .str ⟨#[c]⟩)) (.lst []) = some (.bl ((tl y).any (niS dg))) := by
        refine Eq.trans (show _ = opNe (.lst (((tl y).filter (niS dg)).map (D.str ∘ fun c => (⟨#[c]⟩ : Str)))) (.lst []) from rfl) (N.trans ?_)
        rw [filter_any]
      simp [tOrD, tB1, ev2, evFrz, evLst, evNil, evVar, evC, q1, lift, evB, bLen, evCons, evNil, opGt, l1, h9', hk]
      rw [I]
      simp only [R.bind_ok, N']
      simp [tl]
    · have h9' : (9 : Int) < y.length := by omega
      have hk : okB y = false := by
        unfold okB
        rw [decide_eq_false h9]
        simp
      simp [tOrD, tB1, ev2, evVar, evC, q1, lift, evB, bLen, evCons, evNil, opGt, l1, h9', hk]

theorem figs_lc (X0 X1 X2 X3 X4 X5 : SV) (s : S) (ys : List Str) (h : ∀ y ∈ ys, y.length ≤ 1000 ∧ PyData.strOk y = true) :
    evLc [6] (evSeq (evVar 3)) (tgName 6) badT (evVar 6) ⟨[X0, X1, X2, .d (.lst (ys.map D.str)), X4, X5, .un, .un], s⟩ = if ys.length ≤ 16777216 then .ok ((ys.filter fun y => !okB y).map D.str) ⟨[X0, X1, X2, .d (.lst (ys.map D.str)), X4, X5, .un, .un], s⟩ else .stuck := by
  have L := lc_pure (vs := [6]) (tg := tgName 6) (ft := badT) (fe := evVar 6) (ρw := [X0, X1, X2, .d (.lst (ys.map D.str)), X4, X5, .un, .un]) (s := s) (p := fun d => match d with | .str z => !okB z | _ => false) (e := id) (ys.map D.str) fun d hd => by
    obtain ⟨y, hy, rfl⟩ := List.mem_map.mp hd
    obtain ⟨h1, h2⟩ := h y hy
    exact ⟨_, _, _, rfl, bad_eq _ _ _ _ _ _ y s h1 h2, rfl, fun _ => ⟨rfl, rfl⟩⟩
  unfold evLc
  have e : evSeq (evVar 3) ⟨[X0, X1, X2, .d (.lst (ys.map D.str)), X4, X5, .un, .un], s⟩ = .ok (ys.map D.str) ⟨[X0, X1, X2, .d (.lst (ys.map D.str)), X4, X5, .un, .un], s⟩ := rfl
  rw [e, R.bind_ok, List.length_map]
  split
  · show (noErr (lcL [6] _ _ _ (ys.map D.str) ⟨[X0, X1, X2, .d (.lst (ys.map D.str)), X4, X5, .un, .un], s⟩)).bind _ = _
    rw [L, List.map_id, List.filter_map]
    rfl
  · rfl
theorem cutD1 (d : D) (ds : List D) : DL.cutD (d :: ds) (some 1) none = ds := by
  have h1 : HT.sIx (d :: ds).length 0 (some 1) = min 1 (d :: ds).length := HT.sIx_nat _ 0 1
  have h2 : HT.sIx (d :: ds).length (d :: ds).length none = (d :: ds).length := HT.sIx_none ..
  unfold DL.cutD
  rw [h1, h2, List.length_cons, Nat.min_eq_left (by omega)]
  show ds.take (ds.length + 1 - 1) = ds
  rw [Nat.add_sub_cancel, List.take_length]
theorem spl_count : ∀ (l acc : List Nat), (spl [47] 0 acc l).length ≤ l.length + 1
  | [], acc => by rw [spl_nil]; simp
  | c :: l, acc => by
    by_cases h : c = 47
    · subst h
      have e : spl [47] 0 acc (47 :: l) = acc :: spl [47] 0 [] l := spl_hit rfl
      have := spl_count l []
      rw [e, List.length_cons, List.length_cons]; omega
    · have e : spl [47] 0 acc (c :: l) = spl [47] 0 (acc ++ [c]) l := spl_miss (pre_of_head _ _ h)
      have := spl_count l (acc ++ [c])
      rw [e, List.length_cons]; omega
theorem pts_count (x : Str) : (pts x).length ≤ x.length + 1 := by
  have h := pts_tl x
  have h2 := spl_count (tl x) []
  rw [← h, List.length_map] at h2
  rw [len_tl]; exact h2
/-- what the law's own reading gives -/
def rdD (x : Str) : D := match rdP x with
  | some r => Qd r
  | none => .non
theorem law_read_eq {x : Str} (s : S) (hx : x.length ≤ 1000) (ho : PyData.strOk x = true) : f_law_read [.str x] s = .ok (rdD x) s := by
  obtain ⟨p, rest, hp, ht, hq⟩ := pts_shape x
  have hs := split_eq hx
  have nh := neg_head ht
  unfold f_law_read runB
  rw [law_read_def]
  have op : ∀ q ∈ p :: rest, q.length ≤ 1000 ∧ PyData.strOk q = true := fun q h => by
    obtain ⟨k1, k2⟩ := hq q (by rw [hp]; exact h)
    exact ⟨by omega, strOk_of ho k1⟩
  rw [hp] at hs
  obtain ⟨lp, sp⟩ := op p (List.mem_cons_self ..)
  have lp' : p.length ≤ 16777216 := by omega
  have lx' : x.length ≤ 16777216 := by omega
  have c1 := opEq_str (strOk_cut sp none (some 1)) mi_ok
  rw [cut1_eq] at c1
  have c2 := opEq_str (strOk_cut ho none (some 1)) mi_ok
  rw [cut1_eq, nh] at c2
  rw [List.map_cons] at hs
  have i0 := ix0 (.str p) (rest.map D.str)
  -- the first four lines
  have first : (evSet 2 (evIf (tB1 (ev2 opEq (evSl (ev2 ixD (evVar 1) (evC (.int 0))) (evO0) (evO1 (evC (.int 1)))) (evC (.str mi)))) (evSl (ev2 ixD (evVar 1) (evC (.int 0))) (evO1 (evC (.int 1))) (evO0)) (ev2 ixD (evVar 1) (evC (.int 0))))) ⟨[.d (.str x), .d (.lst (.str p :: rest.map D.str)), .un, .un, .un, .un, .un, .un], s⟩ = .ok .nx ⟨[.d (.str x), .d (.lst (.str p :: rest.map D.str)), .d (.str (bodyS p)), .un, .un, .un, .un, .un], s⟩ := by
    unfold bodyS
    cases hn : neg? p with
    | true =>
      rw [hn] at c1
      simp [evSet, evIf, tB1, ev2, evSl, evO0, evO1, evVar, evC, i0, lift, slD, lp', c1]
    | false =>
      rw [hn] at c1
      simp [evSet, evIf, tB1, ev2, evSl, evO0, evO1, evVar, evC, i0, lift, slD, lp', c1]
  have hc := pts_count x
  rw [hp, List.length_cons] at hc
  have third : (evSet 3 (ev2 opAdd (evFrz (evLst (evCons (evVar 2) (evNil)))) (evSl (evVar 1) (evO1 (evC (.int 1))) (evO0)))) ⟨[.d (.str x), .d (.lst (.str p :: rest.map D.str)), .d (.str (bodyS p)), .un, .un, .un, .un, .un], s⟩ = .ok .nx ⟨[.d (.str x), .d (.lst (.str p :: rest.map D.str)), .d (.str (bodyS p)), .d (.lst ((bodyS p :: rest).map D.str)), .un, .un, .un, .un], s⟩ := by
    have l3 : 1 + rest.length ≤ 16777216 := by omega
    simp [evSet, ev2, evFrz, evLst, evCons, evNil, evVar, evSl, evO0, evO1, evC, lift, slD, cutD1, opAdd, l3]
  have hf : ∀ y ∈ bodyS p :: rest, y.length ≤ 1000 ∧ PyData.strOk y = true := fun y hy => by
    rcases List.mem_cons.mp hy with rfl | hy
    · exact ⟨body_len lp, strOk_body sp⟩
    · exact op y (List.mem_cons_of_mem _ hy)
  have FL := figs_lc (.d (.str x)) (.d (.lst (.str p :: rest.map D.str))) (.d (.str (bodyS p))) .un .un .un s (bodyS p :: rest) hf
  rw [if_pos (by rw [List.length_cons]; omega)] at FL
  have NF := ne_strs (ys := (bodyS p :: rest).filter fun y => !okB y) fun y hy => (hf y (List.mem_filter.mp hy).1).2
  have split1 : (evSet 1 (ev2 mSplit (onStr (evVar 0)) (evC (.str sl)))) ⟨[.d (.str x), .un, .un, .un, .un, .un, .un, .un], s⟩ = .ok .nx ⟨[.d (.str x), .d (.lst (.str p :: rest.map D.str)), .un, .un, .un, .un, .un, .un], s⟩ := by
    simp [evSet, ev2, onStr, isStrD, evVar, evC, hs, lift]
  have start : evThen (evSet 1 (ev2 mSplit (onStr (evVar 0)) (evC (.str sl)))) = fun fr z => (evSet 1 (ev2 mSplit (onStr (evVar 0)) (evC (.str sl))) z).bind fun f z1 => match f with
    | .nx => fr z1
    | .rt d => .ok (.rt d) z1
    | .bk => .ok .bk z1
    | .ct => .ok .ct z1 := rfl
  have vb : (if neg? p = true then -iv (bodyS p) else iv (bodyS p)) = valS p := by
    rw [← val_body]
    split <;> omega
  generalize hT : badT = BT at FL ⊢
  show (match (evThen _ _) ⟨[.d (.str x), .un, .un, .un, .un, .un, .un, .un], s⟩ with | .ok (.rt d) z => _ | .ok .nx z => _ | .err c z => _ | _ => _) = _
  unfold evThen
  rw [split1]
  simp only [R.bind_ok]
  rw [first]
  simp only [R.bind_ok]
  rw [third]
  simp only [R.bind_ok]
  -- the test
  have lenP : evB bLen (evCons (evVar 1) evNil) ⟨[.d (.str x), .d (.lst (.str p :: rest.map D.str)), .d (.str (bodyS p)), .d (.lst ((bodyS p :: rest).map D.str)), .un, .un, .un, .un], s⟩ = .ok (.int ((rest.length : Int) + 1)) ⟨[.d (.str x), .d (.lst (.str p :: rest.map D.str)), .d (.str (bodyS p)), .d (.lst ((bodyS p :: rest).map D.str)), .un, .un, .un, .un], s⟩ := by
    simp [evB, bLen, evCons, evNil, evVar, lift]
  by_cases h3 : 2 < rest.length + 1
  · have h3' : (2 : Int) < (rest.length : Int) + 1 := by omega
    have e : rdD x = .non := by
      unfold rdD rdP
      rw [hp]
      match rest, h3 with
      | _ :: _ :: _, _ => rfl
    rw [e]
    simp only [evIfS, tOrD, tB1, ev2, lenP, R.bind_ok]
    simp [evC, opGt, lift, h3', evRet]
  · have h3' : ¬ (2 : Int) < (rest.length : Int) + 1 := by omega
    simp only [evIfS, tOrD, tB1, ev2, lenP, R.bind_ok]
    simp only [evC, R.bind_ok, opGt, h3', decide_false, lift, Bool.false_eq_true, if_false, evFrz, FL, evLst, evNil, List.length_nil, Nat.zero_le, if_true, NF]
    cases rest with
    | nil =>
      have i0' : ∀ v, ixD (.lst [v]) (.int 0) = some v := fun v => rfl
      have lt := fun t => least_eq (t := t) (b := 1) s (by decide) (sm_of (n := 50) (by decide) (by decide))
      cases hok : okB (bodyS p) with
      | false =>
        have e : rdD x = .non := by
          unfold rdD rdP
          rw [hp]
          simp [hok]
        rw [e]
        simp [hok, evRet, evC]
      | true =>
        have hi := int_ok hok
        have e : rdD x = Qd (Rat.divInt (valS p) 1) := by
          unfold rdD rdP
          rw [hp]
          simp [hok]
        rw [e, ← vb]
        cases hn : neg? p with
        | true =>
          rw [hn] at c2
          simp [hok, evRet, evC, evSkip, evPar, evCons, evNil, evB, bLen, evVar, hi, lift, evIf, tB1, ev2, opEq_int, opNe_int, evCall, evSl, evO0, evO1, slD, lx', c2, ev1, evNeg, lt]
        | false =>
          rw [hn] at c2
          simp [hok, evRet, evC, evSkip, evPar, evCons, evNil, evB, bLen, evVar, hi, lift, evIf, tB1, ev2, opEq_int, opNe_int, evCall, evSl, evO0, evO1, slD, lx', c2, ev1, evNeg, lt]
    | cons q rest => cases rest with
      | nil =>
        have i1' : ∀ v w, ixD (.lst [v, w]) (.int 1) = some w := fun v _ => rfl
        cases hok : okB (bodyS p) with
        | false =>
          have e : rdD x = .non := by
            unfold rdD rdP
            rw [hp]
            simp [hok]
          rw [e]
          simp [hok, evRet, evC]
        | true => cases hok2 : okB q with
          | false =>
            have e : rdD x = .non := by
              unfold rdD rdP
              rw [hp]
              simp [hok, hok2]
            rw [e]
            simp [hok, hok2, evRet, evC]
          | true =>
            have hi := int_ok hok
            have hi2 := int_ok hok2
            by_cases h0 : iv q = 0
            · have e : rdD x = .non := by
                unfold rdD rdP
                rw [hp]
                simp [hok, hok2, h0]
              rw [e]
              rw [h0] at hi2
              simp [hok, hok2, evRet, evC, evSkip, evPar, evCons, evNil, evB, bLen, evVar, hi, hi2, i1', lift, evIf, tB1, ev2, opEq_int, opNe_int]
            · have lt := fun t => least_eq (t := t) (b := iv q) s h0 (iv_bd hok2)
              have e : rdD x = Qd (Rat.divInt (valS p) (iv q)) := by
                unfold rdD rdP
                rw [hp]
                simp [hok, hok2, h0]
              rw [e, ← vb]
              cases hn : neg? p with
              | true =>
                rw [hn] at c2
                simp [hok, hok2, h0, evRet, evC, evSkip, evPar, evCons, evNil, evB, bLen, evVar, hi, hi2, i1', lift, evIf, tB1, ev2, opEq_int, opNe_int, evCall, evSl, evO0, evO1, slD, lx', c2, ev1, evNeg, lt]
              | false =>
                rw [hn] at c2
                simp [hok, hok2, h0, evRet, evC, evSkip, evPar, evCons, evNil, evB, bLen, evVar, hi, hi2, i1', lift, evIf, tB1, ev2, opEq_int, opNe_int, evCall, evSl, evO0, evO1, slD, lx', c2, ev1, evNeg, lt]
      | cons r rest => exact absurd (by simp only [List.length_cons]; omega) h3
end K01

set_option Elab.async false
set_option linter.all false
set_option maxRecDepth 100000
set_option autoImplicit false
set_option exponentiation.threshold 300
namespace K01
open DL PySem PySem.Spec PyProof.Rows L2 TL PySem.StrLaws
/-- a number's text -/
def nS (i : Int) : Str := (toString i : String)
theorem tl_nS (i : Int) : tl (nS i) = if i < 0 then 45 :: numL i.natAbs else numL i.natAbs := by
  by_cases h : i < 0
  · rw [if_pos h]
    obtain ⟨n, rfl⟩ : ∃ n : Nat, i = Int.negSucc n := ⟨i.natAbs - 1, by omega⟩
    have e : (toString (Int.negSucc n) : String) = "-" ++ toString ((n + 1 : Nat) : Int) := rfl
    show tl (Str.ofString (toString (Int.negSucc n))) = _
    rw [e, tl_ofString, String.toList_append, List.map_append]
    have := tl_num (n + 1)
    rw [tl_ofString] at this
    rw [this]
    rfl
  · rw [if_neg h]
    obtain ⟨n, rfl⟩ := Int.eq_ofNat_of_zero_le (show 0 ≤ i by omega)
    exact tl_num n
theorem numL_ok {n : Nat} (h : n < 100) {p : Str} (hp : tl p = numL n) : okB p = true ∧ iv p = n := by
  have h1 : (numL n).length ≤ 2 := numL_len (by decide) h
  have h2 : 0 < (numL n).length := List.length_pos_iff.mpr (numL_ne n)
  have hd := numL_digits n
  constructor
  · unfold okB
    rw [len_tl, hp, decide_eq_true h2, decide_eq_true (show (numL n).length ≤ 9 by omega)]
    simp only [Bool.true_and, List.all_eq_true, decide_eq_true_eq]
    exact fun c hc => hd c hc
  · have e := intText_digits (x := p) (fun c hc => hd c (by rw [← hp]; exact hc)) (fun w => numL_ne n (by rw [← hp]; exact w)) (by rw [len_tl, hp]; omega)
    unfold iv
    rw [e, show p.cps.toList = numL n from hp, numL_val]
    rfl
theorem lead_nS {n : Int} (h : n.natAbs < 100) : okB (bodyS (nS n)) = true ∧ valS (nS n) = n ∧ 47 ∉ tl (nS n) := by
  have t := tl_nS n
  by_cases h0 : n < 0
  · rw [if_pos h0] at t
    have hn : neg? (nS n) = true := by unfold neg?; rw [t]; simp
    have tb : tl (cutS (nS n) (some 1) none) = numL n.natAbs := by
      have h1 : HT.sIx (nS n).length 0 (some 1) = min 1 (nS n).length := HT.sIx_nat _ 0 1
      have h2 : HT.sIx (nS n).length (nS n).length none = (nS n).length := HT.sIx_none ..
      unfold cutS
      rw [h1, h2, tl_mk]
      show List.take _ (List.drop _ (tl (nS n))) = _
      rw [len_tl, t, List.length_cons, Nat.min_eq_left (by omega)]
      show List.take _ (numL n.natAbs) = _
      rw [Nat.add_sub_cancel, List.take_length]
    have k := numL_ok h tb
    unfold valS bodyS
    rw [if_pos hn, if_pos hn]
    refine ⟨k.1, by rw [k.2]; omega, ?_⟩
    rw [t]
    intro w
    rcases List.mem_cons.mp w with w | w
    · cases w
    · exact numL_free (n := n.natAbs) (.inl (by decide)) w
  · rw [if_neg h0] at t
    have k := numL_ok h t
    have hn : neg? (nS n) = false := okB_neg k.1
    unfold valS bodyS
    rw [hn]
    refine ⟨k.1, by simp only [Bool.false_eq_true, if_false]; rw [k.2]; omega, ?_⟩
    rw [t]
    exact numL_free (.inl (by decide))
/-- a ratio's text -/
def tx (r : Rat) : Str := if r.den = 1 then nS r.num else nS r.num ++ (sl ++ nS r.den)
theorem tl_nat {d : Nat} : tl (nS (d : Int)) = numL d := by
  rw [tl_nS, if_neg (by omega)]; rfl
theorem rd_tx {r : Rat} (h : Dr r) : rdP (tx r) = some r := by
  obtain ⟨k1, k2, k3⟩ := lead_nS (n := r.num) (by have := h.1; omega)
  unfold rdP
  by_cases hd : r.den = 1
  · have e : pts (tx r) = [nS r.num] := by
      refine map_tl_inj ?_
      rw [pts_tl]
      unfold tx
      rw [if_pos hd, spl_last1 k3]; rfl
    rw [e]
    simp only [k1, if_true, k2]
    rw [show (1 : Int) = (r.den : Int) by rw [hd]; rfl, Rat.num_divInt_den]
  · have f2 : 47 ∉ numL r.den := numL_free (.inl (by decide))
    have e : pts (tx r) = [nS r.num, nS (r.den : Int)] := by
      refine map_tl_inj ?_
      rw [pts_tl]
      unfold tx
      rw [if_neg hd, tl_append, tl_append, tl_sl, tl_nat]
      show spl [47] 0 [] (tl (nS r.num) ++ ([47] ++ numL r.den)) = _
      have q1 := spl_part1 (s := 47) (S := []) (p := tl (nS r.num)) (rest := numL r.den) (acc := []) k3
      rw [q1, spl_last1 f2]
      simp [tl_nat]
    have k := numL_ok (n := r.den) (by have := h.2; omega) (p := nS (r.den : Int)) tl_nat
    have d0 := r.den_nz
    rw [e]
    simp only [k1, k.1, k.2, k2]
    rw [if_pos ⟨trivial, trivial, by omega⟩, Rat.num_divInt_den]
theorem tx_ok {r : Rat} (h : Dr r) : (tx r).length ≤ 1000 ∧ PyData.strOk (tx r) = true := by
  have n1 : ∀ n : Nat, n < 100 → (numL n).length ≤ 2 ∧ ∀ c ∈ numL n, c < 0x110000 := fun n hn => ⟨numL_len (by decide) hn, fun c hc => by have := numL_digits n c hc; omega⟩
  have s1 : ∀ i : Int, i.natAbs < 100 → (tl (nS i)).length ≤ 3 ∧ ∀ c ∈ tl (nS i), c < 0x110000 := fun i hi => by
    have := n1 i.natAbs hi
    rw [tl_nS]
    split
    · refine ⟨by rw [List.length_cons]; omega, fun c hc => ?_⟩
      rcases List.mem_cons.mp hc with rfl | hc
      · decide
      · exact this.2 c hc
    · exact ⟨by omega, this.2⟩
  have a := s1 r.num (by have := h.1; omega)
  have b := s1 (r.den : Int) (by have := h.2; omega)
  have c : (tl (tx r)).length ≤ 7 ∧ ∀ c ∈ tl (tx r), c < 0x110000 := by
    unfold tx
    split
    · exact ⟨by omega, a.2⟩
    · rw [tl_append, tl_append, tl_sl]
      refine ⟨by simp only [List.length_append, List.length_cons, List.length_nil]; omega, fun c hc => ?_⟩
      rcases List.mem_append.mp hc with hc | hc
      · exact a.2 c hc
      · rcases List.mem_append.mp hc with hc | hc
        · rw [List.mem_singleton.mp hc]; decide
        · exact b.2 c hc
  refine ⟨by rw [len_tl]; omega, ?_⟩
  unfold PyData.strOk
  rw [Array.all_eq_true_iff_forall_mem]
  intro d hd
  exact decide_eq_true (c.2 d (Array.mem_toList_iff.mpr hd))
end K01

set_option Elab.async false
set_option linter.all false
set_option maxRecDepth 100000
set_option autoImplicit false
set_option exponentiation.threshold 300
namespace K01
open DL PySem PySem.Spec PyProof.Rows L2 TL PySem.StrLaws
theorem log_ok {i : Int} (h : i.natAbs < 100) : i.natAbs.log2 < 1920 := Nat.lt_of_le_of_lt (Nat.log2_le_self _) (by omega)
theorem app_asc (a b c : Str) : a ++ b ++ c = a ++ (b ++ c) := ext_tl (by simp only [tl_append, List.append_assoc])
theorem em_app (a : Str) : Str.empty ++ a = a := ext_tl (by rw [tl_append]; rfl)
theorem app_em (a : Str) : a ++ em = a := ext_tl (by rw [tl_append, tl_em, List.append_nil])
theorem short_nS {i : Int} (h : i.natAbs < 100) : (nS i).length ≤ 3 := by
  rw [len_tl, tl_nS]
  have := numL_len (n := i.natAbs) (k := 2) (by decide) h
  split
  · rw [List.length_cons]; omega
  · omega
theorem bStr_eq {i : Int} (h : i.natAbs.log2 < 1920) : bStr [.int i] = some (.str (nS i)) := by
  show (if i.natAbs.log2 < 1920 then some (D.str (toString i : String)) else none) = _
  rw [if_pos h]; rfl
theorem fmt_eq {f : ME} {z z1 : Z} {i : Int} (e : f z = .ok (.int i) z1) (h : i.natAbs.log2 < 1920) : evFmtD f z = .ok (.str (nS i)) z1 := by
  unfold evFmtD
  rw [e, R.bind_ok]
  show (if i.natAbs.log2 < 1920 then R.ok (D.str (toString i : String)) z1 else .stuck) = _
  rw [if_pos h]; rfl
theorem shown_eq {r : Rat} (s : S) (h : Dr r) : f_shown [Qd r] s = .ok (.str (tx r)) s := by
  have a := log_ok (i := r.num) (by have := h.1; omega)
  have b := log_ok (i := (r.den : Int)) (by have := h.2; omega)
  have c := short_nS (i := r.num) (by have := h.1; omega)
  have d := short_nS (i := (r.den : Int)) (by have := h.2; omega)
  have e := (tx_ok h).1
  unfold f_shown runB m_f_shown
  by_cases hd : r.den = 1
  · have t : tx r = nS r.num := by unfold tx; rw [if_pos hd]
    rw [t]
    simp [evRet, evIf, tB1, ev2, evVar, evC, atQ0, atQ1, opEq_int, lift, hd, evB, evCons, evNil, bStr_eq a]
  · have t : tx r = nS r.num ++ (sl ++ nS r.den) := by unfold tx; rw [if_neg hd]
    have hd' : ((r.den : Int) == 1) = false := by rw [beq_eq_false_iff_ne]; omega
    have ap : ∀ x y : Str, (x ++ y).length = x.length + y.length := fun x y => by rw [len_tl, len_tl, len_tl, tl_append, List.length_append]
    have l1 : sl.length = 1 := by rw [len_tl, tl_sl]; rfl
    rw [t] at e ⊢
    have e1 : ¬ 16777216 < (nS r.num).length := by omega
    have g1 : (nS r.num).length ≤ 16777216 := by omega
    have g2 : (nS r.num ++ sl).length ≤ 16777216 := by rw [ap]; omega
    have g3 : (nS r.num ++ sl ++ nS r.den).length ≤ 16777216 := by rw [app_asc]; omega
    rw [← app_asc]
    have f1 : evFmtD (ev2 ixD (evVar 0) (evC (.int 0))) ⟨[.d (Qd r)], s⟩ = .ok (.str (nS r.num)) ⟨[.d (Qd r)], s⟩ := fmt_eq rfl a
    have f2 : evFmtD (ev2 ixD (evVar 0) (evC (.int 1))) ⟨[.d (Qd r)], s⟩ = .ok (.str (nS r.den)) ⟨[.d (Qd r)], s⟩ := fmt_eq rfl b
    have js : evJs [evFmtD (ev2 ixD (evVar 0) (evC (.int 0))), evC (.str (PySem.Str.ofString "/")), evFmtD (ev2 ixD (evVar 0) (evC (.int 1)))] Str.empty ⟨[.d (Qd r)], s⟩ = .ok (.str (nS r.num ++ sl ++ nS r.den)) ⟨[.d (Qd r)], s⟩ := by
      simp only [evJs, f1, f2, R.bind_ok, em_app, g1, if_true, evC]
      rw [if_pos g2, if_pos g3]
    simp [evRet, evIf, tB1, ev2, evVar, evC, atQ0, atQ1, opEq_int, lift, hd', evB, evCons, evNil, js]
theorem text_eq {r : Rat} (h : Dr r) {z : Z} (hz : z.ρ[18]? = some (.d (Qd r))) : (ev2 opAdd (evB bStr (evCons (ev2 ixD (evVar 18) (evC (.int 0))) (evNil))) (evIf (tB1 (ev2 opNe (ev2 ixD (evVar 18) (evC (.int 1))) (evC (.int 1)))) (ev2 opAdd (evC (.str sl)) (evB bStr (evCons (ev2 ixD (evVar 18) (evC (.int 1))) (evNil)))) (evC (.str em)))) z = .ok (.str (tx r)) z := by
  have a := log_ok (i := r.num) (by have := h.1; omega)
  have b := log_ok (i := (r.den : Int)) (by have := h.2; omega)
  have c := short_nS (i := r.num) (by have := h.1; omega)
  have d := short_nS (i := (r.den : Int)) (by have := h.2; omega)
  have ap : ∀ x y : Str, (x ++ y).length = x.length + y.length := fun x y => by rw [len_tl, len_tl, len_tl, tl_append, List.length_append]
  have l1 : sl.length = 1 := by rw [len_tl, tl_sl]; rfl
  have l0 : em.length = 0 := by rw [len_tl, tl_em]; rfl
  have v : evVar 18 z = .ok (Qd r) z := by unfold evVar; rw [hz]
  unfold tx
  by_cases hd : r.den = 1
  · have g1 : (nS r.num).length + em.length ≤ 16777216 := by omega
    rw [if_pos hd]
    simp [ev2, v, evC, atQ0, atQ1, opNe_int, lift, hd, evB, evCons, evNil, bStr_eq a, evIf, tB1, opAdd, g1, app_em]
  · have hd' : ((r.den : Int) == 1) = false := by rw [beq_eq_false_iff_ne]; omega
    have g1 : sl.length + (nS r.den).length ≤ 16777216 := by omega
    have g2 : (nS r.num).length + (sl ++ nS r.den).length ≤ 16777216 := by rw [ap]; omega
    rw [if_neg hd]
    simp [ev2, v, evC, atQ0, atQ1, opNe_int, lift, hd', evB, evCons, evNil, bStr_eq a, bStr_eq b, evIf, tB1, opAdd, g1, g2]
/-! ### the whole below -/
theorem below_eq {r : Rat} (s : S) (h : Dr r) : f_whole_below [Qd r] s = .ok (.int (r.num / r.den)) s := by
  have d0 := r.den_nz
  have p : (0 : Int) < r.den := by omega
  have sm := h.bd.smd (by decide)
  unfold f_whole_below runB m_f_whole_below
  simp [evRet, ev2, evVar, evC, atQ0, atQ1, opDiv, lift, d0, Nat.pos_of_ne_zero d0, smB_of sm]
theorem below_bd {r : Rat} (h : Dr r) : -30 ≤ r.num / r.den ∧ r.num / r.den ≤ 30 := by
  have h1 := Int.natAbs_ediv_le_natAbs r.num r.den
  have := h.1
  omega
def upTo (q : Int) : List D := ((List.range 81).map fun (i : Nat) => (-40 + (i : Int))).filter (fun k => decide (k ≤ q)) |>.map D.int
theorem upTo_last : ∀ q ∈ (List.range 61).map (fun (i : Nat) => (-30 + (i : Int))), (((List.range 81).map fun (i : Nat) => (-40 + (i : Int))).filter fun k => decide (k ≤ q)).length = (q + 41).toNat ∧ (((List.range 81).map fun (i : Nat) => (-40 + (i : Int))).filter fun k => decide (k ≤ q))[(q + 40).toNat]? = some q := by decide +kernel
theorem mem61 {q : Int} (h : -30 ≤ q ∧ q ≤ 30) : q ∈ (List.range 61).map (fun (i : Nat) => (-30 + (i : Int))) := List.mem_map.mpr ⟨(q + 30).toNat, List.mem_range.mpr (by omega), by omega⟩
theorem last_ix {q : Int} (h : -30 ≤ q ∧ q ≤ 30) : ixD (.lst (upTo q)) (.int (((upTo q).length : Int) - 1)) = some (.int q) := by
  obtain ⟨h1, h2⟩ := upTo_last q (mem61 h)
  have e : ((upTo q).length : Int) - 1 = (((q + 40).toNat : Nat) : Int) := by
    unfold upTo
    rw [List.length_map, h1]
    omega
  rw [e]
  show atI (upTo q) _ = _
  refine atI_nat ?_
  unfold upTo
  rw [List.getElem?_map, h2]
  rfl
end K01

set_option Elab.async false
set_option linter.all false
set_option maxRecDepth 100000
set_option autoImplicit false
set_option exponentiation.threshold 300
namespace K01
open DL PySem PySem.Spec PyProof.Rows L2 TL PySem.StrLaws
/-! ### draws in a line of the law -/
def rollE (m : Int) : ME := evCall 2 f_law_roll [] (evCons (evVar 1) (evCons (evC (.int m)) (evNil)))
def drawE : ME := evCall 1 f_law_drawn [] (evCons (evVar 1) (evNil))
theorem var_at {i : Nat} {z : Z} {d : D} (h : z.ρ[i]? = some (.d d)) : evVar i z = .ok d z := by
  unfold evVar
  rw [h]
theorem roll_at {z : Z} {n : Nat} {m : Int} (hz : z.ρ[1]? = some (.d .dice)) (h0 : 0 < m) (h1 : m ≤ 100000000) (h : SOk (n + 1) z.s) : ∃ k s', rollE m z = .ok (.int k) ⟨z.ρ, s'⟩ ∧ 0 ≤ k ∧ k < m ∧ SOk n s' := by
  obtain ⟨k, s', e, p, q, o⟩ := roll_eq h0 h1 h
  refine ⟨k, s', ?_, p, q, o⟩
  unfold rollE
  simp [evCall, evCons, evNil, var_at hz, evC, e]
theorem draw_at {z : Z} {n : Nat} (hz : z.ρ[1]? = some (.d .dice)) (h : SOk (n + 2) z.s) : ∃ r s', drawE z = .ok (Qd r) ⟨z.ρ, s'⟩ ∧ Dr r ∧ SOk n s' := by
  obtain ⟨r, s', e, p, o⟩ := drawn_eq h
  refine ⟨r, s', ?_, p, o⟩
  unfold drawE
  simp [evCall, evCons, evNil, var_at hz, e]
theorem lc_at {z : Z} (v : Nat) (hv : z.ρ[v]? = some .un) {fi : ML} {fe : ME} {ds : List D} {s1 : S} (hfi : fi z = .ok ds ⟨z.ρ, s1⟩) (hl : ds.length ≤ 16777216) (k n : Nat) (hs : SOk (n + k * ds.length) s1) (good : D → Prop)
    (hfe : ∀ d ∈ ds, ∀ n s, SOk (n + k) s → ∃ x s', fe ⟨z.ρ.set v (.d d), s⟩ = .ok x ⟨z.ρ.set v (.d d), s'⟩ ∧ SOk n s' ∧ good x) :
    ∃ xs s', evLc [v] fi (tgName v) evYes fe z = .ok xs ⟨z.ρ, s'⟩ ∧ xs.length = ds.length ∧ (∀ x ∈ xs, good x) ∧ SOk n s' := by
  have hlen : v < z.ρ.length := (List.getElem?_eq_some_iff.mp hv).1
  have same : z.ρ.set v .un = z.ρ := by
    refine List.ext_getElem? fun j => ?_
    by_cases hj : j = v
    · subst hj; rw [List.getElem?_set_self hlen, hv]
    · rw [List.getElem?_set_ne (Ne.symm hj)]
  have hh : ∀ d ∈ ds, ∃ ρ1, tgName v d z.ρ = some ρ1 ∧ ∀ n s, SOk (n + k) s → ∃ x ρ3 s', fe ⟨ρ1, s⟩ = .ok x ⟨ρ3, s'⟩ ∧ wipeR ρ3 [v] = z.ρ ∧ SOk n s' ∧ good x := by
    intro d hd
    refine ⟨List.set z.ρ v (SV.d d), rfl, ?_⟩
    intro n s hn
    obtain ⟨x, s', f1, f2, f3⟩ := hfe d hd n s hn
    refine ⟨x, List.set z.ρ v (SV.d d), s', f1, ?_, f2, f3⟩
    show (z.ρ.set v (.d d)).set v .un = z.ρ
    rw [List.set_set, same]
  have L := lc_draw (vs := [v]) (tg := tgName v) (fe := fe) (ρw := z.ρ) k good ds n s1 hs hh
  obtain ⟨xs, s', e, h2, h3, h4⟩ := L
  refine ⟨xs, s', ?_, h2, h3, h4⟩
  unfold evLc
  rw [hfi, R.bind_ok, if_pos hl]
  show (noErr (lcL [v] (tgName v) evYes fe ds ⟨z.ρ.set v .un, s1⟩)).bind _ = _
  rw [same, e]
  show R.ok xs (⟨(z.ρ).set v (keepD (z.ρ[v]?.getD .un)), s'⟩ : Z) = _
  rw [hv]
  show R.ok xs (⟨z.ρ.set v .un, s'⟩ : Z) = _
  rw [same]
theorem set_ne1 {ρ : List SV} {v : Nat} {x : SV} (hv : v ≠ 1) (hz : ρ[1]? = some (.d .dice)) : (ρ.set v x)[1]? = some (.d .dice) := by rw [List.getElem?_set_ne hv]; exact hz
/-- a list of drawn ratios -/
theorem all_Q {xs : List D} (h : ∀ x ∈ xs, ∃ r, x = Qd r ∧ Dr r) : ∃ rs : List Rat, xs = rs.map Qd ∧ Drs rs := by
  induction xs with
  | nil => exact ⟨[], rfl, fun r hr => by cases hr⟩
  | cons x xs ih =>
    obtain ⟨r, rfl, hr⟩ := h x (List.mem_cons_self ..)
    obtain ⟨rs, rfl, hrs⟩ := ih fun y hy => h y (List.mem_cons_of_mem _ hy)
    exact ⟨r :: rs, rfl, fun q hq => by
      rcases List.mem_cons.mp hq with rfl | hq
      · exact hr
      · exact hrs q hq⟩
theorem rng_at {z : Z} {m : Int} {fe : ME} {j : Int} {s' : S} (e : fe z = .ok (.int j) ⟨z.ρ, s'⟩) (h0 : 0 ≤ j) (h1 : j < 1000) : evRng1 (evCons fe evNil) z = .ok (rangeD 0 j.toNat) ⟨z.ρ, s'⟩ ∧ (rangeD 0 j.toNat).length = j.toNat := by
  refine ⟨?_, by unfold rangeD; simp⟩
  have h2 : -4611686018427387904 ≤ j ∧ j < 4611686018427387904 := by omega
  simp [evRng1, evCons, evNil, e, h2]
theorem draws_at {z : Z} {n : Nat} {m : Int} (v : Nat) (hv1 : v ≠ 1) (hv : z.ρ[v]? = some .un) (hz : z.ρ[1]? = some (.d .dice)) (h0 : 0 < m) (h1 : m ≤ 100) (h : SOk (n + 300) z.s) :
    ∃ rs s', evLc [v] (evRng1 (evCons (rollE m) evNil)) (tgName v) evYes drawE z = .ok (rs.map Qd) ⟨z.ρ, s'⟩ ∧ (rs.length : Int) < m ∧ Drs rs ∧ SOk n s' := by
  obtain ⟨j, s1, e, p, q, o⟩ := roll_at (n := n + 299) hz h0 (by omega) h
  obtain ⟨e2, l2⟩ := rng_at (m := m) e p (by omega)
  obtain ⟨xs, s', f1, f2, f3, f4⟩ := lc_at v hv e2 (by omega) 2 n (o.mono (by rw [l2]; omega)) (fun x => ∃ r, x = Qd r ∧ Dr r) (fe := drawE) fun d hd n s hs => by
    obtain ⟨r, s', g1, g2, g3⟩ := draw_at (z := ⟨z.ρ.set v (.d d), s⟩) (set_ne1 hv1 hz) hs
    exact ⟨Qd r, s', g1, g3, r, rfl, g2⟩
  obtain ⟨rs, rfl, hr⟩ := all_Q f3
  rw [List.length_map] at f2
  exact ⟨rs, s', f1, by omega, hr, f4⟩
/-- three drawn ones -/
theorem three_at {z : Z} {n : Nat} (v : Nat) (hv1 : v ≠ 1) (hv : z.ρ[v]? = some .un) (hz : z.ρ[1]? = some (.d .dice)) (h : SOk (n + 6) z.s) :
    ∃ a b c s', evLc [v] (evRng1 (evCons (evC (.int 3)) evNil)) (tgName v) evYes drawE z = .ok [Qd a, Qd b, Qd c] ⟨z.ρ, s'⟩ ∧ Dr a ∧ Dr b ∧ Dr c ∧ SOk n s' := by
  obtain ⟨e2, l2⟩ := rng_at (m := 0) (z := z) (fe := evC (.int 3)) (j := 3) (s' := z.s) rfl (by decide) (by decide)
  obtain ⟨xs, s', f1, f2, f3, f4⟩ := lc_at v hv e2 (by rw [l2]; decide) 2 n (h.mono (by rw [l2]; exact Nat.le_refl _)) (fun x => ∃ r, x = Qd r ∧ Dr r) (fe := drawE) fun d hd n s hs => by
    obtain ⟨r, s', g1, g2, g3⟩ := draw_at (z := ⟨z.ρ.set v (.d d), s⟩) (set_ne1 hv1 hz) hs
    exact ⟨Qd r, s', g1, g3, r, rfl, g2⟩
  rw [l2] at f2
  match xs, f2, f1, f3 with
  | [x, y, w], _, f1, f3 =>
    obtain ⟨a, rfl, ha⟩ := f3 x (by simp)
    obtain ⟨b, rfl, hb⟩ := f3 y (by simp)
    obtain ⟨c, rfl, hc⟩ := f3 w (by simp)
    exact ⟨a, b, c, s', f1, ha, hb, hc, f4⟩
def rowOk (x : D) : Prop := ∃ a b c, x = .lst [Qd a, Qd b, Qd c] ∧ Dr a ∧ Dr b ∧ Dr c
theorem rows_at {z : Z} {n : Nat} (hv : z.ρ[23]? = some .un) (hv2 : z.ρ[21]? = some .un) (hz : z.ρ[1]? = some (.d .dice)) (h : SOk (n + 18) z.s) :
    ∃ x y w s', evLc [23] (evRng1 (evCons (evC (.int 3)) evNil)) (tgName 23) evYes (evFrz (evLc [21] (evRng1 (evCons (evC (.int 3)) evNil)) (tgName 21) evYes drawE)) z = .ok [x, y, w] ⟨z.ρ, s'⟩ ∧ rowOk x ∧ rowOk y ∧ rowOk w ∧ SOk n s' := by
  obtain ⟨e2, l2⟩ := rng_at (m := 0) (z := z) (fe := evC (.int 3)) (j := 3) (s' := z.s) rfl (by decide) (by decide)
  obtain ⟨xs, s', f1, f2, f3, f4⟩ := lc_at 23 hv e2 (by rw [l2]; decide) 6 n (h.mono (by rw [l2]; exact Nat.le_refl _)) rowOk (fe := evFrz (evLc [21] (evRng1 (evCons (evC (.int 3)) evNil)) (tgName 21) evYes drawE)) fun d hd n s hs => by
    obtain ⟨a, b, c, s', g1, ga, gb, gc, g3⟩ := three_at (z := ⟨z.ρ.set 23 (.d d), s⟩) 21 (by decide) (by show (z.ρ.set 23 (.d d))[21]? = _; rw [List.getElem?_set_ne (by decide)]; exact hv2) (set_ne1 (by decide) hz) hs
    exact ⟨_, s', by unfold evFrz; rw [g1]; rfl, g3, a, b, c, rfl, ga, gb, gc⟩
  rw [l2] at f2
  match xs, f2, f1, f3 with
  | [x, y, w], _, f1, f3 => exact ⟨x, y, w, s', f1, f3 x (by simp), f3 y (by simp), f3 w (by simp), f4⟩
/-- drawn signs -/
abbrev sgn : Str := PySem.Str.ofString "0123-/ "
def oneOk (x : D) : Prop := ∃ c, x = .str ⟨#[c]⟩ ∧ c < 128
theorem sign_at {k : Int} (h0 : 0 ≤ k) (h1 : k < 7) : ∃ x, ixD (.str sgn) (.int k) = some x ∧ oneOk x := by
  have ln : sgn.length ≤ 16777216 := by rw [len_tl, tl_ofString]; decide
  have e : sgn.cps.toList = [48, 49, 50, 51, 45, 47, 32] := by rw [show sgn.cps.toList = tl sgn from rfl, tl_ofString]; rfl
  obtain ⟨j, rfl⟩ := Int.eq_ofNat_of_zero_le h0
  have hj : j < 7 := by omega
  have hx : ∃ c, sgn.cps.toList[j]? = some c ∧ c < 128 := by
    rw [e]
    match j, hj with
    | 0, _ => exact ⟨_, rfl, by decide⟩
    | 1, _ => exact ⟨_, rfl, by decide⟩
    | 2, _ => exact ⟨_, rfl, by decide⟩
    | 3, _ => exact ⟨_, rfl, by decide⟩
    | 4, _ => exact ⟨_, rfl, by decide⟩
    | 5, _ => exact ⟨_, rfl, by decide⟩
    | 6, _ => exact ⟨_, rfl, by decide⟩
  obtain ⟨c, hc, hl⟩ := hx
  refine ⟨.str ⟨#[c]⟩, ?_, c, rfl, hl⟩
  show (if sgn.length ≤ 16777216 then (atI sgn.cps.toList (j : Int)).map fun c => D.str ⟨#[c]⟩ else none) = _
  rw [if_pos ln, atI_nat hc]; rfl
theorem all_one {xs : List D} (h : ∀ x ∈ xs, oneOk x) : ∃ cs : List Nat, xs = (cs.map fun c => (⟨#[c]⟩ : Str)).map D.str ∧ ∀ c ∈ cs, c < 128 := by
  induction xs with
  | nil => exact ⟨[], rfl, fun r hr => by cases hr⟩
  | cons x xs ih =>
    obtain ⟨r, rfl, hr⟩ := h x (List.mem_cons_self ..)
    obtain ⟨rs, rfl, hrs⟩ := ih fun y hy => h y (List.mem_cons_of_mem _ hy)
    exact ⟨r :: rs, rfl, fun q hq => by
      rcases List.mem_cons.mp hq with rfl | hq
      · exact hr
      · exact hrs q hq⟩
theorem strsOf_map : ∀ ys : List Str, strsOf (ys.map D.str) = some ys
  | [] => rfl
  | y :: ys => by
    show (strsOf (ys.map D.str)).map (y :: ·) = _
    rw [strsOf_map ys]; rfl
theorem joinL_one : ∀ cs : List Nat, joinL [] (cs.map fun c => [c]) = cs
  | [] => rfl
  | [c] => rfl
  | c :: d :: cs => by
    have := joinL_one (d :: cs)
    show [c] ++ [] ++ joinL [] ((d :: cs).map fun c => [c]) = _
    rw [this]; rfl
theorem join_one (cs : List Nat) : tl (Txt.join em (cs.map fun c => (⟨#[c]⟩ : Str))) = cs := by
  rw [join_eq, tl_join, tl_em, List.map_map]
  exact joinL_one cs
theorem sum_one (cs : List Nat) : ((cs.map fun c => (⟨#[c]⟩ : Str)).map (·.length)).sum = cs.length := by
  induction cs with
  | nil => rfl
  | cons c cs ih =>
    rw [List.map_cons, List.map_cons, List.sum_cons, ih, List.length_cons]
    show 1 + _ = _
    omega
def txtOk (x : Str) : Prop := x.length ≤ 1000 ∧ PyData.strOk x = true
theorem drawn_text {z : Z} {n : Nat} (hv : z.ρ[21]? = some .un) (hz : z.ρ[1]? = some (.d .dice)) (h : SOk (n + 300) z.s) :
    ∃ x s', (ev2 mJoin (onStr (evC (.str em))) (evFrz (evLc [21] (evRng1 (evCons (rollE 7) evNil)) (tgName 21) evYes (ev2 ixD (evC (.str sgn)) (rollE 7))))) z = .ok (.str x) ⟨z.ρ, s'⟩ ∧ txtOk x ∧ SOk n s' := by
  obtain ⟨j, s1, e, p, q, o⟩ := roll_at (n := n + 299) (m := 7) hz (by decide) (by decide) h
  obtain ⟨e2, l2⟩ := rng_at (m := 7) e p (by omega)
  obtain ⟨xs, s', f1, f2, f3, f4⟩ := lc_at 21 hv e2 (by omega) 1 n (o.mono (by rw [l2]; omega)) oneOk (fe := ev2 ixD (evC (.str sgn)) (rollE 7)) fun d hd n s hs => by
    obtain ⟨k, s', g1, g2, g3, g4⟩ := roll_at (z := ⟨z.ρ.set 21 (.d d), s⟩) (m := 7) (set_ne1 (by decide) hz) (by decide) (by decide) hs
    obtain ⟨x, k1, k2⟩ := sign_at g2 g3
    refine ⟨x, s', ?_, g4, k2⟩
    simp [ev2, evC, g1, k1, lift]
  obtain ⟨cs, rfl, hc⟩ := all_one f3
  rw [List.length_map, List.length_map] at f2
  have tj := join_one cs
  refine ⟨Txt.join em (cs.map fun c => (⟨#[c]⟩ : Str)), s', ?_, ⟨?_, ?_⟩, f4⟩
  · have l0 : em.length = 0 := by rw [len_tl, tl_em]; rfl
    have jj : mJoin (.str em) (.lst ((cs.map fun c => (⟨#[c]⟩ : Str)).map D.str)) = some (.str (Txt.join em (cs.map fun c => (⟨#[c]⟩ : Str)))) := by
      unfold mJoin
      simp only [strsOf_map]
      rw [if_pos (by rw [sum_one, l0]; omega)]
    have f1' : evFrz (evLc [21] (evRng1 (evCons (rollE 7) evNil)) (tgName 21) evYes (ev2 ixD (evC (.str sgn)) (rollE 7))) z = .ok (.lst ((cs.map fun c => (⟨#[c]⟩ : Str)).map D.str)) ⟨z.ρ, s'⟩ := by
      unfold evFrz
      rw [f1]; rfl
    show (onStr (evC (.str em)) z).bind (fun d z1 => (evFrz (evLc [21] (evRng1 (evCons (rollE 7) evNil)) (tgName 21) evYes (ev2 ixD (evC (.str sgn)) (rollE 7))) z1).bind fun e z2 => lift (mJoin d e) z2) = _
    rw [show onStr (evC (.str em)) z = .ok (.str em) z from rfl, R.bind_ok, f1', R.bind_ok, jj]
    rfl
  · rw [len_tl, tj]; omega
  · unfold PyData.strOk
    rw [Array.all_eq_true_iff_forall_mem]
    intro d hd
    have := hc d (by rw [← tj]; exact Array.mem_toList_iff.mpr hd)
    exact decide_eq_true (by omega)
end K01

set_option Elab.async false
set_option linter.all false
set_option maxRecDepth 100000
set_option autoImplicit false
set_option exponentiation.threshold 300
namespace K01
open DL PySem PySem.Spec PyProof.Rows L2 TL PySem.StrLaws
def PIk (ks : List Int) : Prop := ks.length ≤ 63 ∧ ∀ z ∈ ks, Builtin.Int.intBits z ≤ 1048576
theorem bits_lt {z : Int} (h : Builtin.Int.intBits z ≤ 1048576) : z.natAbs < 2 ^ 2000000 := by
  unfold Builtin.Int.intBits at h
  by_cases h0 : z = 0
  · subst h0; exact small_pow (by decide)
  · have h1 := Nat.lt_log2_self (n := z.natAbs)
    refine Nat.lt_of_lt_of_le h1 (pow_lt ?_)
    simp [h0] at h
    omega
theorem dice_eq (k : Int) (s : S) (hk : k.natAbs < 2 ^ 2000000) : ∃ a b c, f_law_dice [.int k] s = .ok (.lst [.int a, .int b, .int c]) s ∧ SOk 900000000 (a, b, c) := by
  by_cases h : 0 - 10 < k ∧ k < 10
  · refine ⟨k.natAbs, 0, 2, ?_, ⟨by simpa using hk, by simp⟩⟩
    have h1 : (0 - 10 : Int) < k := h.1
    have h1' : (-10 : Int) < k := by omega
    unfold f_law_dice runB m_f_law_dice
    simp [evThen, evIfS, tB1, ev3, ev2, evVar, evC, opSub, opLt, lift, h1', h.2, evRet, evFrz, evLst, evCons, evNil, evB, bAbs, abs_eq]
  · have m1 := Int.emod_nonneg k (show (1009 : Int) ≠ 0 by decide)
    have m2 := Int.emod_lt_of_pos k (show (0 : Int) < 1009 by decide)
    refine ⟨k, 1 + k % 1009, if 10 ^ 18 ≤ k then 1 else 0, ?_, ⟨hk, by simp only; omega⟩⟩
    have p10 : (10 : Int) ^ (18 : Int).toNat = 10 ^ 18 := rfl
    unfold f_law_dice runB m_f_law_dice
    by_cases h1 : (-10 : Int) < k
    · have h2 : ¬ k < 10 := fun w => h ⟨by omega, w⟩
      by_cases h3 : 1000000000000000000 ≤ k
      · simp [evThen, evIfS, tB1, ev3, ev2, evVar, evC, opSub, opLt, opGe, opPow, opAdd, opMod, lift, h1, h2, h3, evSkip, evRet, evFrz, evLst, evCons, evNil, evB, bInt]
      · simp [evThen, evIfS, tB1, ev3, ev2, evVar, evC, opSub, opLt, opGe, opPow, opAdd, opMod, lift, h1, h2, h3, evSkip, evRet, evFrz, evLst, evCons, evNil, evB, bInt]
    · by_cases h3 : 1000000000000000000 ≤ k
      · omega
      · simp [evThen, evIfS, tB1, ev3, ev2, evVar, evC, opSub, opLt, opGe, opPow, opAdd, opMod, lift, h1, h3, evSkip, evRet, evFrz, evLst, evCons, evNil, evB, bInt]
theorem eq_nil0 : opEq (.lst []) (.lst []) = some (.bl true) := by simp [opEq, eqD, toP, toPs, SeqAt.shaped, PyData.canLay0, PyData.canLayAll0, PyData.depth, PyData.depthAll, PyData.eqv, PyData.eqvAll]
theorem eq_nil1 (k : Int) : opEq (.lst [.int k]) (.lst []) = some (.bl false) := by simp [opEq, eqD, toP, toPs, SeqAt.shaped, PyData.canLay0, PyData.canLayAll0, PyData.depth, PyData.depthAll, PyData.eqv, PyData.eqvAll]
theorem cut_one (ds : List D) : DL.cutD ds none (some 1) = ds.take 1 := by
  have h1 : HT.sIx ds.length 0 none = 0 := HT.sIx_none ..
  have h2 : HT.sIx ds.length ds.length (some 1) = min 1 ds.length := HT.sIx_nat ds.length ds.length 1
  unfold DL.cutD
  rw [h1, h2, Nat.sub_zero, List.drop_zero]
  cases ds with
  | nil => rfl
  | cons d ds => rw [List.length_cons, Nat.min_eq_left (by omega)]
theorem rounds_lc (X0 X1 X2 : SV) (k : Int) (s : S) (a b c : Int) (h : f_law_dice [.int k] s = .ok (.lst [.int a, .int b, .int c]) s) :
    lcL [3] (tgName 3) evYes (evCall 1 f_law_dice [] (evCons (evVar 3) (evNil))) [.int k] ⟨[X0, X1, X2, .un], s⟩ = .ok [.lst [.int a, .int b, .int c]] ⟨[X0, X1, X2, .un], s⟩ := by
  have v : evVar 3 ⟨[X0, X1, X2, .d (.int k)], s⟩ = .ok (.int k) ⟨[X0, X1, X2, .d (.int k)], s⟩ := rfl
  simp [lcL, tgName, evYes, evCall, evCons, evNil, v, h, wipeR]
theorem it_eq (ks : List Int) (s : S) (h : PIk ks) : ∃ a b c z1, m_it ⟨.d (.scr (ks.map D.int)) :: List.replicate 24 .un, s⟩ = .ok (.lst [.lst [.int a, .int b, .int c]]) z1 ∧ SOk 900000000 (a, b, c) := by
  have key : ∀ k : Int, k.natAbs < 2 ^ 2000000 → ((ks.map D.int).take 1 = [.int k] ∨ ((ks.map D.int).take 1 = [] ∧ k = 0)) → ∃ a b c z1, m_it ⟨.d (.scr (ks.map D.int)) :: List.replicate 24 .un, s⟩ = .ok (.lst [.lst [.int a, .int b, .int c]]) z1 ∧ SOk 900000000 (a, b, c) := by
    intro k hk hc
    obtain ⟨a, b, c, e, o⟩ := dice_eq k s hk
    refine ⟨a, b, c, ⟨.d (.scr (ks.map D.int)) :: List.replicate 24 .un, s⟩, ?_, o⟩
    have R : f_law_rounds [.scr (ks.map D.int), .int 1] s = .ok (.lst [.lst [.int a, .int b, .int c]]) s := by
      unfold f_law_rounds runB m_f_law_rounds
      rcases hc with hc | ⟨hc, rfl⟩
      · have L := rounds_lc (.d (.scr (ks.map D.int))) (.d (.int 1)) (.d (.lst [.int k])) k s a b c e
        simp [evThen, evSet, evSl, evO0, evO1, evVar, slD, cut_one, hc, lift, evIfS, tB1, ev2, evFrz, evLst, evNil, eq_nil1, evSkip, evRet, evLc, evSeq, wipeR, L, backR, keepD]
      · have L := rounds_lc (.d (.scr (ks.map D.int))) (.d (.int 1)) (.d (.lst [.int 0])) 0 s a b c e
        simp [evThen, evSet, evSl, evO0, evO1, evVar, slD, cut_one, hc, lift, evIfS, tB1, ev2, evFrz, evLst, evCons, evC, evNil, eq_nil0, evOwn, evRet, evLc, evSeq, wipeR, L, backR, keepD]
    unfold m_it
    simp [evCall, evCons, evNil, evVar, evC, R]
  cases ks with
  | nil => exact key 0 (small_pow (by decide)) (.inr ⟨rfl, rfl⟩)
  | cons k r => exact key k (bits_lt (h.2 k (List.mem_cons_self ..))) (.inl rfl)
end K01

set_option Elab.async false
set_option linter.all false
set_option maxRecDepth 100000
set_option autoImplicit false
set_option exponentiation.threshold 300
namespace K01
open DL PySem PySem.Spec PyProof.Rows L2 TL PySem.StrLaws
theorem rd1 : rdP (PySem.Str.ofString "") = none := by decide +kernel
theorem rd2 : rdP (PySem.Str.ofString "1/0") = none := by decide +kernel
theorem rd3 : rdP (PySem.Str.ofString "1/2/3") = none := by decide +kernel
theorem rd4 : rdP (PySem.Str.ofString "1/-2") = none := by decide +kernel
theorem rd5 : rdP (PySem.Str.ofString "1234567890") = none := by decide +kernel
theorem rd6 : rdP (PySem.Str.ofString "-2/6") = some (Rat.divInt (-1) 3) := by decide +kernel
theorem sh1 : tx (Rat.divInt (-1) 3) = PySem.Str.ofString "-1/3" := by decide +kernel
theorem len_s (x : String) (h : (x.toList.map Char.toNat).length ≤ 1000) : (PySem.Str.ofString x).length ≤ 1000 := by rw [len_tl, tl_ofString]; exact h
theorem lam_err : ∀ k, k < 9 → ∀ z : Z, L_f_law k z = .err NE z := by
  intro k hk z
  have rdE : ∀ x : Str, x.length ≤ 1000 → rdP x = none → ∀ z : Z, evCall 1 f_read [] (evCons (evC (.str x)) (evNil)) z = .err NE z := fun x h1 h2 z => by
    have e := read_eq z.s h1
    rw [h2] at e
    simp [evCall, evCons, evNil, evC, e]
  match k, hk with
  | 0, _ =>
    have e := number_eq (t := 1) (b := 0) z.s (sm_of (n := 5) (by decide) (by decide))
    show ml_0 z = _
    unfold ml_0
    simp [evCall, evCons, evNil, evC, e]
  | 1, _ =>
    have e := over_eq (m := 5) (n := 5) (a := 1) (b := 0) z.s ⟨by decide, by decide⟩ ⟨by decide, by decide⟩ (by decide)
    have q1 : Qd 1 = .tup [.int 1, .int 1] := rfl
    have q0 : Qd 0 = .tup [.int 0, .int 1] := rfl
    rw [q1, q0] at e
    show ml_1 z = _
    unfold ml_1
    simp [evCall, evCons, evNil, evC, evTup, e]
  | 2, _ =>
    have e := least_of_eq z.s [] (fun r hr => by cases hr)
    show ml_2 z = _
    unfold ml_2
    simp at e
    simp [evCall, evCons, evNil, evC, evFrz, evLst, e]
  | 3, _ =>
    have e := greatest_of_eq z.s [] (fun r hr => by cases hr)
    show ml_3 z = _
    unfold ml_3
    simp at e
    simp [evCall, evCons, evNil, evC, evFrz, evLst, e]
  | 4, _ => exact rdE _ (len_s _ (by decide)) rd1 z
  | 5, _ => exact rdE _ (len_s _ (by decide)) rd2 z
  | 6, _ => exact rdE _ (len_s _ (by decide)) rd3 z
  | 7, _ => exact rdE _ (len_s _ (by decide)) rd4 z
  | 8, _ => exact rdE _ (len_s _ (by decide)) rd5 z
theorem ne_ok : PyData.strOk NE = true := by decide +kernel
def lamsD : List D := [.lam 0, .lam 1, .lam 2, .lam 3, .lam 4, .lam 5, .lam 6, .lam 7, .lam 8]
def toldT : MT := (tB1 (ev2 opNe (evToldK okErr NE 24 L_f_law) (evC (.str NE))))
theorem told_lc (ρ : List SV) (s : S) (h : ρ[24]? = some .un) : lcL [24] (tgName 24) toldT (evC (.int 1)) lamsD ⟨ρ, s⟩ = .ok [] ⟨ρ, s⟩ := by
  have hlen : 24 < ρ.length := (List.getElem?_eq_some_iff.mp h).1
  have same : ρ.set 24 .un = ρ := by
    refine List.ext_getElem? fun j => ?_
    by_cases hj : j = 24
    · subst hj; rw [List.getElem?_set_self hlen, h]
    · rw [List.getElem?_set_ne (Ne.symm hj)]
  have L := lc_pure (vs := [24]) (tg := tgName 24) (ft := toldT) (fe := evC (.int 1)) (ρw := ρ) (s := s) (p := fun _ => false) (e := id) lamsD fun d hd => by
    have hk : ∃ k, k < 9 ∧ d = .lam k := by
      unfold lamsD at hd
      simp only [List.mem_cons, List.not_mem_nil, or_false] at hd
      rcases hd with h | h | h | h | h | h | h | h | h
      · exact ⟨0, by decide, h⟩
      · exact ⟨1, by decide, h⟩
      · exact ⟨2, by decide, h⟩
      · exact ⟨3, by decide, h⟩
      · exact ⟨4, by decide, h⟩
      · exact ⟨5, by decide, h⟩
      · exact ⟨6, by decide, h⟩
      · exact ⟨7, by decide, h⟩
      · exact ⟨8, by decide, h⟩
    obtain ⟨k, hk, rfl⟩ := hk
    have e := lam_err k hk ⟨ρ.set 24 (.d (.lam k)), s⟩
    refine ⟨ρ.set 24 (.d (.lam k)), ρ.set 24 (.d (.lam k)), ρ, rfl, ?_, ?_, fun w => by cases w⟩
    · have t : evToldK okErr NE 24 L_f_law ⟨ρ.set 24 (.d (.lam k)), s⟩ = .ok (.str NE) ⟨ρ.set 24 (.d (.lam k)), s⟩ := by
        unfold evToldK
        rw [List.getElem?_set_self hlen]
        show evTold okErr NE (L_f_law k) ⟨ρ.set 24 (.d (.lam k)), s⟩ = _
        unfold evTold
        rw [e]
        show (if okErr NE = true then _ else _) = _
        rw [if_pos (by unfold okErr; exact beq_self_eq_true _)]
      have n := opNe_str ne_ok ne_ok
      rw [show (NE == NE) = true from beq_self_eq_true _] at n
      unfold toldT tB1 ev2
      rw [t]
      simp [evC, n, lift]
    · show (ρ.set 24 (.d (.lam k))).set 24 .un = ρ
      rw [List.set_set, same]
  rw [L]
  simp
end K01

set_option Elab.async false
set_option linter.all false
set_option maxRecDepth 100000
set_option autoImplicit false
set_option exponentiation.threshold 300
namespace K01
open DL PySem PySem.Spec PyProof.Rows L2 TL PySem.StrLaws
theorem mr1_def : mr_1 = evIfS (tNotD (tAndD (tB1 (ev2 opEq (evFrz (evLc [24] (evSeq (evVar 16)) (tgName 24) toldT (evC (.int 1)))) (evFrz (evLst (evNil))))) (tB1 (ev2 opEq (evCall 1 f_read [] (evCons (evC (.str (PySem.Str.ofString "-2/6"))) (evNil))) (evTup (evCons (ev1 evNeg (evC (.int 1))) (evCons (evC (.int 3)) (evNil)))))))) (evRet (evC (.bl false))) (evSkip) := rfl
theorem Q13 : Qd (Rat.divInt (-1) 3) = .tup [.int (-1), .int 3] := by
  have h1 : (Rat.divInt (-1) 3).num = -1 := by decide +kernel
  have h2 : (Rat.divInt (-1) 3).den = 3 := by decide +kernel
  unfold Qd
  rw [h1, h2]; rfl
theorem Q12 : Qd (Rat.divInt (-1) 2) = .tup [.int (-1), .int 2] := by
  have h1 : (Rat.divInt (-1) 2).num = -1 := by decide +kernel
  have h2 : (Rat.divInt (-1) 2).den = 2 := by decide +kernel
  unfold Qd
  rw [h1, h2]; rfl
theorem Q07 : Qd (Rat.divInt 0 (-7)) = .tup [.int 0, .int 1] := by
  have h1 : (Rat.divInt 0 (-7)).num = 0 := by decide +kernel
  have h2 : (Rat.divInt 0 (-7)).den = 1 := by decide +kernel
  unfold Qd
  rw [h1, h2]; rfl
theorem then_nx {a b : MS} {z z1 : Z} (h : a z = .ok .nx z1) : evThen a b z = b z1 := by
  unfold evThen
  rw [h]; rfl
theorem rest_eq (ρ : List SV) (s : S) (hl : ρ.length = 25) (h24 : ρ[24]? = some .un) : ∃ z3, m_rest ⟨ρ, s⟩ = .ok (.rt (.bl true)) z3 := by
  have e0 : mr_0 ⟨ρ, s⟩ = .ok .nx ⟨ρ.set 16 (.own lamsD), s⟩ := by
    simp [mr_0, evOwn, evLst, evCons, evNil, lamsD]
  have h24' : (ρ.set 16 (.d (.lst lamsD)))[24]? = some .un := by rw [List.getElem?_set_ne (by decide)]; exact h24
  have l24 : 24 < ρ.length := by omega
  have same : (ρ.set 16 (.d (.lst lamsD))).set 24 .un = ρ.set 16 (.d (.lst lamsD)) := by
    refine List.ext_getElem? fun j => ?_
    by_cases hj : j = 24
    · subst hj; rw [List.getElem?_set_self (by simpa using l24), h24']
    · rw [List.getElem?_set_ne (Ne.symm hj)]
  have e1 : evLc [24] (evSeq (evVar 16)) (tgName 24) toldT (evC (.int 1)) ⟨ρ.set 16 (.own lamsD), s⟩ = .ok [] ⟨ρ.set 16 (.d (.lst lamsD)), s⟩ := by
    have v : evSeq (evVar 16) ⟨ρ.set 16 (.own lamsD), s⟩ = .ok lamsD ⟨ρ.set 16 (.d (.lst lamsD)), s⟩ := by
      unfold evSeq evVar
      rw [List.getElem?_set_self (by omega)]
      simp
    unfold evLc
    rw [v, R.bind_ok, if_pos (by decide)]
    show (noErr (lcL [24] (tgName 24) toldT (evC (.int 1)) lamsD ⟨(ρ.set 16 (.d (.lst lamsD))).set 24 .un, s⟩)).bind _ = _
    rw [same, told_lc _ _ h24']
    show R.ok [] (⟨(ρ.set 16 (.d (.lst lamsD))).set 24 (keepD ((ρ.set 16 (.d (.lst lamsD)))[24]?.getD .un)), s⟩ : Z) = _
    rw [h24']
    show R.ok [] (⟨(ρ.set 16 (.d (.lst lamsD))).set 24 .un, s⟩ : Z) = _
    rw [same]
  have r6 := read_eq (x := PySem.Str.ofString "-2/6") s (len_s _ (by decide))
  rw [rd6] at r6
  have r6 : f_read [.str (PySem.Str.ofString "-2/6")] s = .ok (.tup [.int (-1), .int 3]) s := r6.trans (by rw [← Q13])
  have q6 := opEq_Q (Rat.divInt (-1) 3) (Rat.divInt (-1) 3)
  rw [Q13, decide_eq_true rfl] at q6
  have e2 : mr_1 ⟨ρ.set 16 (.own lamsD), s⟩ = .ok .nx ⟨ρ.set 16 (.d (.lst lamsD)), s⟩ := by
    rw [mr1_def]
    simp only [evIfS, tNotD, tAndD, tB1, ev2, evFrz, e1, R.bind_ok]
    simp [evLst, evNil, eq_nil0, lift, evCall, evCons, evC, r6, ev1, evNeg, evTup, q6, evSkip]
  have d13 : Dr (Rat.divInt (-1) 3) := ⟨by decide +kernel, by decide +kernel⟩
  have d12 : Dr (Rat.divInt (-1) 2) := ⟨by decide +kernel, by decide +kernel⟩
  have s1 := shown_eq s d13
  rw [Q13, sh1] at s1
  have b1 := below_eq s d12
  rw [Q12, show (Rat.divInt (-1) 2).num / ((Rat.divInt (-1) 2).den : Int) = -1 by decide +kernel] at b1
  have n1 := number_eq (t := 0) (b := -7) s (sm_of (n := 5) (by decide) (by decide))
  rw [if_neg (by decide), Q07] at n1
  have q1 := opEq_str (a := PySem.Str.ofString "-1/3") (b := PySem.Str.ofString "-1/3") (by decide +kernel) (by decide +kernel)
  rw [beq_self_eq_true] at q1
  have q0 := opEq_Q 0 0
  rw [show Qd 0 = .tup [.int 0, .int 1] from rfl, decide_eq_true rfl] at q0
  have e3 : mr_2 ⟨ρ.set 16 (.d (.lst lamsD)), s⟩ = .ok (.rt (.bl true)) ⟨ρ.set 16 (.d (.lst lamsD)), s⟩ := by
    simp [mr_2, evRet, evAnd, ev2, evCall, evCons, evNil, evTup, evC, ev1, evNeg, lift, s1, q1, n1, q0, b1, opEq_int]
  refine ⟨⟨ρ.set 16 (.d (.lst lamsD)), s⟩, ?_⟩
  unfold m_rest
  rw [then_nx e0, then_nx e2]
  exact e3
end K01

set_option Elab.async false
set_option linter.all false
set_option maxRecDepth 100000
set_option autoImplicit false
set_option exponentiation.threshold 300
namespace K01
open DL PySem PySem.Spec PyProof.Rows L2 TL PySem.StrLaws
theorem check {T : MT} {f : MS} {z z1 : Z} (h : T z = .ok false z1) : evIfS T f evSkip z = .ok .nx z1 := by
  unfold evIfS
  rw [h]; rfl
theorem ne_false {f g : ME} {z z1 z2 : Z} {d e : D} (hf : f z = .ok d z1) (hg : g z1 = .ok e z2) (h : opNe d e = some (.bl false)) : tB1 (ev2 opNe f g) z = .ok false z2 := by
  unfold tB1 ev2
  rw [hf, R.bind_ok, hg, R.bind_ok, h]; rfl
theorem or_false {T U : MT} {z z1 z2 : Z} (hT : T z = .ok false z1) (hU : U z1 = .ok false z2) : tOrD T U z = .ok false z2 := by
  unfold tOrD
  rw [hT, R.bind_ok]; exact hU
theorem b0 {z : Z} {n : Nat} (hz : z.ρ[1]? = some (.d .dice)) (h : SOk (n + 3) z.s) : ∃ t b s', mb_0 z = .ok .nx ⟨(z.ρ.set 2 (.d (.int t))).set 3 (.d (.int b)), s'⟩ ∧ b ≠ 0 ∧ Sm b ∧ Sm t ∧ SOk n s' := by
  obtain ⟨k1, s1, e1, p1, q1, o1⟩ := roll_at (m := 301) hz (by decide) (by decide) h
  obtain ⟨k2, s2, e2, p2, q2, o2⟩ := roll_at (z := ⟨z.ρ, s1⟩) (m := 90) hz (by decide) (by decide) o1
  obtain ⟨k3, s3, e3, p3, q3, o3⟩ := roll_at (z := ⟨z.ρ, s2⟩) (m := 2) hz (by decide) (by decide) o2
  have hx : ∃ g : Int, ixD (.lst [.int 1, .int (-1)]) (.int k3) = some (.int g) ∧ (g = 1 ∨ g = -1) := by
    have : k3 = 0 ∨ k3 = 1 := by omega
    rcases this with rfl | rfl
    · exact ⟨1, rfl, .inl rfl⟩
    · exact ⟨-1, rfl, .inr rfl⟩
  obtain ⟨g, hg, hg2⟩ := hx
  have mb : mulB (1 + k2) g = true := mulB_sm (sm_of (n := 20) (by omega) (by decide)) (sm_of (n := 20) (by omega) (by decide))
  have hb : (1 + k2) * g ≠ 0 ∧ ((1 + k2) * g).natAbs < 2 ^ 20 := by
    rcases hg2 with rfl | rfl <;> omega
  refine ⟨k1 - 150, (1 + k2) * g, s3, ?_, hb.1, sm_of hb.2 (by decide), sm_of (n := 20) (by omega) (by decide), o3⟩
  have d : mb_0 = evPar 2 3 (evCons (ev2 opSub (rollE 301) (evC (.int 150))) (evCons (ev2 opMul (ev2 opAdd (evC (.int 1)) (rollE 90)) (ev2 ixD (evFrz (evLst (evCons (evC (.int 1)) (evCons (ev1 evNeg (evC (.int 1))) (evNil))))) (rollE 2))) (evNil))) := rfl
  rw [d]
  simp [evPar, evCons, evNil, ev2, evC, e1, e2, opSub, opAdd, opMul, lift, evFrz, evLst, ev1, evNeg, e3, hg, mb]
theorem b1 {z : Z} {t b : Int} (h2 : z.ρ[2]? = some (.d (.int t))) (h3 : z.ρ[3]? = some (.d (.int b))) (hb : b ≠ 0) (sm : Sm b) : mb_1 z = .ok .nx z := by
  refine check ?_
  have e1 := number_eq (t := t) z.s sm
  rw [if_neg hb] at e1
  have e2 := least_eq (t := t) z.s hb sm
  have e3 := number1 t z.s
  have q1 := opNe_Q (Rat.divInt t b) (Rat.divInt t b)
  rw [decide_eq_true rfl] at q1
  have hn : (Rat.divInt t 1).num = t ∧ (Rat.divInt t 1).den = 1 := by
    have := sign_pos (b := 1) (t := t) (by decide)
    have g : (1 : Int).gcd t = 1 := by simp
    rw [g] at this
    exact ⟨by simpa using this.1, by have := this.2; simp at this; omega⟩
  have q2 := opNe_Q (Rat.divInt t 1) (Rat.divInt t 1)
  rw [decide_eq_true rfl] at q2
  have qt : Qd (Rat.divInt t 1) = .tup [.int t, .int 1] := by
    unfold Qd
    rw [hn.1, hn.2]; rfl
  rw [qt] at q2 e3
  simp [tOrD, tB1, ev2, evCall, evCons, evNil, var_at h2, var_at h3, e1, e2, q1, lift, e3, evTup, evC, q2]
theorem b2 {z : Z} {n : Nat} (hz : z.ρ[1]? = some (.d .dice)) (h : SOk (n + 4) z.s) : ∃ a b s', mb_2 z = .ok .nx ⟨(z.ρ.set 18 (.d (Qd a))).set 19 (.d (Qd b)), s'⟩ ∧ Dr a ∧ Dr b ∧ SOk n s' := by
  obtain ⟨a, s1, e1, d1, o1⟩ := draw_at hz h
  obtain ⟨b, s2, e2, d2, o2⟩ := draw_at (z := ⟨z.ρ, s1⟩) hz o1
  refine ⟨a, b, s2, ?_, d1, d2, o2⟩
  have d : mb_2 = evAsg (evTup (evCons drawE (evCons drawE (evNil)))) (tgTup 2 (tgCons (tgName 18) (tgCons (tgName 19) (tgNil)))) := rfl
  rw [d]
  simp [evAsg, evTup, evCons, evNil, e1, e2, tgTup, tgCons, tgName, tgNil]
section
variable {z : Z} {a b : Rat}
theorem neQ (a : Rat) : opNe (Qd a) (Qd a) = some (.bl false) := by
  have q := opNe_Q a a
  rw [decide_eq_true rfl] at q
  exact q
theorem b3 (h1 : z.ρ[18]? = some (.d (Qd a))) (h2 : z.ρ[19]? = some (.d (Qd b))) (da : Dr a) (db : Dr b) : mb_3 z = .ok .nx z := by
  refine check ?_
  have e1 := plus_eq z.s da.bd db.bd (by decide)
  have e2 := lplus_eq z.s da.bd db.bd (by decide)
  have e3 := minus_eq z.s da.bd db.bd (by decide)
  have e4 := lless_eq z.s da.bd db.bd (by decide)
  simp [tOrD, tB1, ev2, evCall, evCons, evNil, var_at h1, var_at h2, e1, e2, e3, e4, neQ, lift]
theorem b4 (h1 : z.ρ[18]? = some (.d (Qd a))) (h2 : z.ρ[19]? = some (.d (Qd b))) (da : Dr a) (db : Dr b) : mb_4 z = .ok .nx z := by
  refine check ?_
  have e1 := times_eq z.s da.bd db.bd (by decide)
  have e2 := ltimes_eq z.s da.bd db.bd (by decide)
  simp [tOrD, tB1, ev2, evCall, evCons, evNil, var_at h1, var_at h2, e1, e2, neQ, lift]
def dueD (a b : Rat) : D := if b.num = 0 then .str NE else Qd (Rat.divInt (a.num * b.den) (a.den * b.num))
theorem b5 (h1 : z.ρ[18]? = some (.d (Qd a))) (h2 : z.ρ[19]? = some (.d (Qd b))) (da : Dr a) (db : Dr b) : mb_5 z = .ok .nx ⟨z.ρ.set 4 (.d (dueD a b)), z.s⟩ := by
  have m1 := mulB_sm (da.bd.smn (by decide)) (db.bd.smd (by decide))
  have m2 := mulB_sm (da.bd.smd (by decide)) (db.bd.smn (by decide))
  have hd : (a.den : Int) ≠ 0 := by have := a.den_nz; omega
  unfold dueD
  by_cases h0 : b.num = 0
  · rw [if_pos h0]
    simp [mb_5, evSet, evIf, tB1, ev2, var_at h2, evC, atQ0, lift, h0, opNe_int]
  · rw [if_neg h0]
    have hb2 : ((a.den : Int) * b.num).natAbs < 2 ^ 10 := by rw [Int.natAbs_mul]; exact mul_lt_pow da.bd.2 db.bd.1
    have e := least_eq (t := a.num * b.den) z.s (Int.mul_ne_zero hd h0) (sm_of hb2 (by decide))
    simp [mb_5, evSet, evIf, tB1, ev2, var_at h1, var_at h2, evC, atQ0, atQ1, lift, h0, opNe_int, evCall, evCons, evNil, opMul, m1, m2, e]
theorem b6 (h1 : z.ρ[18]? = some (.d (Qd a))) (h2 : z.ρ[19]? = some (.d (Qd b))) (da : Dr a) (db : Dr b) : mb_6 z = .ok .nx ⟨z.ρ.set 5 (.d (.int (a.num * b.den - b.num * a.den))), z.s⟩ := by
  have m1 := mulB_sm (da.bd.smn (by decide)) (db.bd.smd (by decide))
  have m2 := mulB_sm (db.bd.smn (by decide)) (da.bd.smd (by decide))
  simp [mb_6, evSet, ev2, var_at h1, var_at h2, evC, atQ0, atQ1, lift, opMul, m1, m2, opSub]
theorem b7 (h1 : z.ρ[18]? = some (.d (Qd a))) (h2 : z.ρ[19]? = some (.d (Qd b))) (h4 : z.ρ[4]? = some (.d (dueD a b))) (da : Dr a) (db : Dr b) : mb_7 z = .ok .nx z := by
  refine check ?_
  have e := over_eq z.s da.bd db.bd (by decide)
  have n := opNe_str ne_ok ne_ok
  rw [beq_self_eq_true] at n
  have ok : okErr NE = true := by unfold okErr; exact beq_self_eq_true _
  unfold dueD at h4
  by_cases h0 : b.num = 0
  · rw [if_pos h0] at e h4
    simp [tB1, ev2, evTold, evCall, evCons, evNil, var_at h1, var_at h2, var_at h4, e, ok, n, lift]
  · rw [if_neg h0] at e h4
    simp [tB1, ev2, evTold, evCall, evCons, evNil, var_at h1, var_at h2, var_at h4, e, neQ, lift]
theorem sg_e (i : Int) {z : Z} {f : ME} (h : f z = .ok (.int i) z) : evIf (tB1 (ev2 opGt f (evC (.int 0)))) (evC (.int 1)) (evIf (tB1 (ev2 opEq f (evC (.int 0)))) (evC (.int 0)) (ev1 evNeg (evC (.int 1)))) z = .ok (.int (sg i)) z := by
  unfold sg
  by_cases h1 : 0 < i
  · simp [evIf, tB1, ev2, h, evC, opGt, lift, h1]
  · by_cases h2 : i = 0
    · simp [evIf, tB1, ev2, h, evC, opGt, opEq_int, lift, h2]
    · simp [evIf, tB1, ev2, h, evC, opGt, opEq_int, lift, h1, h2, ev1, evNeg]
theorem b8 (h1 : z.ρ[18]? = some (.d (Qd a))) (h2 : z.ρ[19]? = some (.d (Qd b))) (h5 : z.ρ[5]? = some (.d (.int (a.num * b.den - b.num * a.den)))) (da : Dr a) (db : Dr b) : mb_8 z = .ok .nx z := by
  have e := compared_eq z.s da.bd db.bd (by decide)
  have g := sg_e _ (var_at h5)
  rw [sub_sign] at e
  have l : evCall 2 f_compared [] (evCons (evVar 18) (evCons (evVar 19) (evNil))) z = .ok (.int (sg (a.num * b.den - b.num * a.den))) z := by
    simp [evCall, evCons, evNil, var_at h1, var_at h2, e]
  exact check (ne_false l g (by simp [opNe_int]))
theorem b9 (h1 : z.ρ[18]? = some (.d (Qd a))) : mb_9 z = .ok .nx z := by
  have e := sign_of_eq a z.s
  have v : ev2 ixD (evVar 18) (evC (.int 0)) z = .ok (.int a.num) z := by simp [ev2, var_at h1, evC, atQ0, lift]
  have g := sg_e _ v
  have l : evCall 1 f_sign_of [] (evCons (evVar 18) (evNil)) z = .ok (.int (sg a.num)) z := by simp [evCall, evCons, evNil, var_at h1, e]
  exact check (ne_false l g (by simp [opNe_int]))
end
end K01

set_option Elab.async false
set_option linter.all false
set_option maxRecDepth 100000
set_option autoImplicit false
set_option exponentiation.threshold 300
namespace K01
open DL PySem PySem.Spec PyProof.Rows L2 TL PySem.StrLaws
theorem cons_ok {fa : ME} {fl : ML} {z z1 z2 : Z} {d : D} {ds : List D} (h1 : fa z = .ok d z1) (h2 : fl z1 = .ok ds z2) : evCons fa fl z = .ok (d :: ds) z2 := by
  unfold evCons
  rw [h1, R.bind_ok, h2]; rfl
theorem tup_ok {fl : ML} {z z1 : Z} {ds : List D} (h : fl z = .ok ds z1) (hl : ds.length ≤ 16777216) : evTup fl z = .ok (.tup ds) z1 := by
  unfold evTup
  rw [h, R.bind_ok, if_pos hl]
theorem b10 {z : Z} {n : Nat} (hz : z.ρ[1]? = some (.d .dice)) (hv : z.ρ[21]? = some .un) (h : SOk (n + 300) z.s) : ∃ rs s', mb_10 z = .ok .nx ⟨(z.ρ.set 20 (.d (.lst (rs.map Qd)))).set 6 (.d (Qd 0)), s'⟩ ∧ Drs rs ∧ rs.length < 6 ∧ SOk n s' := by
  obtain ⟨rs, s', e, l, d, o⟩ := draws_at (m := 6) 21 (by decide) hv hz (by decide) (by decide) h
  refine ⟨rs, s', ?_, d, by omega, o⟩
  have df : mb_10 = evAsg (evTup (evCons (evFrz (evLc [21] (evRng1 (evCons (rollE 6) evNil)) (tgName 21) evYes drawE)) (evCons (evTup (evCons (evC (.int 0)) (evCons (evC (.int 1)) (evNil)))) (evNil)))) (tgTup 2 (tgCons (tgName 20) (tgCons (tgName 6) (tgNil)))) := rfl
  have f : evFrz (evLc [21] (evRng1 (evCons (rollE 6) evNil)) (tgName 21) evYes drawE) z = .ok (.lst (rs.map Qd)) ⟨z.ρ, s'⟩ := by
    unfold evFrz
    rw [e]; rfl
  rw [df]
  have q0 : Qd 0 = .tup [.int 0, .int 1] := rfl
  rw [q0]
  unfold evAsg
  have t : evTup (evCons (evFrz (evLc [21] (evRng1 (evCons (rollE 6) evNil)) (tgName 21) evYes drawE)) (evCons (evTup (evCons (evC (.int 0)) (evCons (evC (.int 1)) (evNil)))) (evNil))) z = .ok (.tup [.lst (rs.map Qd), .tup [.int 0, .int 1]]) ⟨z.ρ, s'⟩ :=
    tup_ok (cons_ok f (cons_ok (tup_ok (cons_ok rfl (cons_ok rfl rfl)) (by simp)) rfl)) (by simp)
  rw [t]
  simp [tgTup, tgCons, tgName, tgNil]
theorem sum_loop (s : S) : ∀ (rs : List Rat) (n : Nat) (acc : Rat) (ρ : List SV), ρ.length = 25 → ρ[6]? = some (.d (Qd acc)) → Drs rs → Bd n acc → n + 6 * rs.length ≤ 6000 →
    ∃ x, forL (tgName 7) (evSet 6 (evCall 2 f_law_plus [] (evCons (evVar 6) (evCons (evVar 7) (evNil))))) (rs.map Qd) ⟨ρ, s⟩ = .ok .nx ⟨(ρ.set 7 x).set 6 (.d (Qd (rs.foldl (· + ·) acc))), s⟩ ∧ (x = (ρ[7]?.getD .un) ∨ ∃ r, x = .d (Qd r))
  | [], n, acc, ρ, hl, h6, _, _, _ => by
    refine ⟨ρ[7]?.getD .un, ?_, .inl rfl⟩
    have e : (ρ.set 7 (ρ[7]?.getD .un)).set 6 (.d (Qd acc)) = ρ := by
      refine List.ext_getElem? fun j => ?_
      by_cases h1 : j = 6
      · subst h1; rw [List.getElem?_set_self (by simp; omega), h6]
      · rw [List.getElem?_set_ne (Ne.symm h1)]
        by_cases h2 : j = 7
        · subst h2; rw [List.getElem?_set_self (by omega)]
          have : 7 < ρ.length := by omega
          rw [List.getElem?_eq_getElem this]; rfl
        · rw [List.getElem?_set_ne (Ne.symm h2)]
    show R.ok Fl.nx (⟨ρ, s⟩ : Z) = _
    rw [List.foldl_nil, e]
  | r :: rs, n, acc, ρ, hl, h6, hr, ha, hn => by
    have hd := hr r (List.mem_cons_self ..)
    have hb := ha.add hd.bd
    have p := lplus_eq s ha hd.bd (by simp only [List.length_cons] at hn; omega)
    have h6' : (ρ.set 7 (.d (Qd r)))[6]? = some (.d (Qd acc)) := by rw [List.getElem?_set_ne (by decide)]; exact h6
    have h7' : (ρ.set 7 (.d (Qd r)))[7]? = some (.d (Qd r)) := List.getElem?_set_self (by omega)
    have st : evSet 6 (evCall 2 f_law_plus [] (evCons (evVar 6) (evCons (evVar 7) (evNil)))) ⟨ρ.set 7 (.d (Qd r)), s⟩ = .ok .nx ⟨(ρ.set 7 (.d (Qd r))).set 6 (.d (Qd (acc + r))), s⟩ := by
      have v6 := var_at (z := ⟨ρ.set 7 (.d (Qd r)), s⟩) h6'
      have v7 := var_at (z := ⟨ρ.set 7 (.d (Qd r)), s⟩) h7'
      simp [evSet, evCall, evCons, evNil, v6, v7, p]
    obtain ⟨x, e, hx⟩ := sum_loop s rs (n + 5 + 1) (acc + r) ((ρ.set 7 (.d (Qd r))).set 6 (.d (Qd (acc + r)))) (by simpa using hl) (List.getElem?_set_self (by simp; omega)) (fun q hq => hr q (List.mem_cons_of_mem _ hq)) hb (by simp only [List.length_cons] at hn; omega)
    refine ⟨x, ?_, ?_⟩
    · rw [List.map_cons, forL_cons (ρ' := ρ.set 7 (.d (Qd r))) rfl st, e, List.foldl_cons]
      congr 2
      refine List.ext_getElem? fun j => ?_
      by_cases h1 : j = 6
      · subst h1; rw [List.getElem?_set_self (by simp; omega), List.getElem?_set_self (by simp; omega)]
      · rw [List.getElem?_set_ne (Ne.symm h1), List.getElem?_set_ne (Ne.symm h1)]
        by_cases h2 : j = 7
        · subst h2; rw [List.getElem?_set_self (by simp; omega), List.getElem?_set_self (by omega)]
        · rw [List.getElem?_set_ne (Ne.symm h2), List.getElem?_set_ne (Ne.symm h2), List.getElem?_set_ne (Ne.symm h1), List.getElem?_set_ne (Ne.symm h2)]
    · rcases hx with hx | hx
      · refine .inr ⟨r, ?_⟩
        rw [hx, List.getElem?_set_ne (by decide), h7']; rfl
      · exact .inr hx
theorem b11 {z : Z} {rs : List Rat} (hl : z.ρ.length = 25) (h20 : z.ρ[20]? = some (.d (.lst (rs.map Qd)))) (h6 : z.ρ[6]? = some (.d (Qd 0))) (hr : Drs rs) (hn : rs.length < 6) :
    ∃ x, mb_11 z = .ok .nx ⟨(z.ρ.set 7 x).set 6 (.d (Qd (rs.foldl (· + ·) 0))), z.s⟩ ∧ (x = (z.ρ[7]?.getD .un) ∨ ∃ r, x = .d (Qd r)) := by
  obtain ⟨x, e, hx⟩ := sum_loop z.s rs 1 0 z.ρ hl h6 hr ⟨by decide, by decide⟩ (by omega)
  refine ⟨x, ?_, hx⟩
  have v := var_at h20
  unfold mb_11 evFor evSeq
  rw [v, R.bind_ok, R.bind_ok]
  exact e
/-! ### the least, the greatest -/
theorem opEq_ones : ∀ n : Nat, opEq (.lst (List.replicate n (.int 1))) (.lst []) = some (.bl (n == 0)) := by
  intro n
  have e1 : ∀ n, toPs (List.replicate n (D.int 1)) = some (List.replicate n (PyData.int 1)) := by
    intro n
    induction n with
    | zero => rfl
    | succ n ih =>
      rw [List.replicate_succ, List.replicate_succ]
      show (match toP (.int 1), toPs (List.replicate n (D.int 1)) with | some p, some ps => some (p :: ps) | _, _ => none) = _
      rw [ih]; rfl
  have e2 : ∀ n, PyData.canLayAll0 (List.replicate n (PyData.int 1)) = true ∧ PyData.depthAll (List.replicate n (PyData.int 1)) = 0 := by
    intro n
    induction n with
    | zero => simp [PyData.canLayAll0, PyData.depthAll]
    | succ n ih => simp [List.replicate_succ, PyData.canLayAll0, PyData.depthAll, PyData.canLay0, PyData.depth, ih.1, ih.2]
  have t1 : toP (.lst (List.replicate n (D.int 1))) = some (.list (List.replicate n (PyData.int 1))) := by
    show (toPs _).map PyData.list = _
    rw [e1]; rfl
  have t2 : toP (.lst []) = some (.list []) := rfl
  have s1 : SeqAt.shaped (.list (List.replicate n (PyData.int 1))) = true := by simp [SeqAt.shaped, PyData.canLay0, PyData.depth, (e2 n).1, (e2 n).2]
  have s2 : SeqAt.shaped (.list []) = true := by simp [SeqAt.shaped, PyData.canLay0, PyData.canLayAll0, PyData.depth, PyData.depthAll]
  unfold opEq eqD
  rw [t1, t2]
  simp only [s1, s2]
  cases n with
  | zero => simp [PyData.eqv, PyData.eqvAll]
  | succ n => simp [List.replicate_succ, PyData.eqv, PyData.eqvAll]
/-- those of rs that are before p -/
def befT (op : D → D → Option D) : MT := tB1 (ev2 op (ev2 opMul (ev2 ixD (evVar 22) (evC (.int 0))) (ev2 ixD (evVar 7) (evC (.int 1)))) (ev2 opMul (ev2 ixD (evVar 7) (evC (.int 0))) (ev2 ixD (evVar 22) (evC (.int 1)))))
def minT (op : D → D → Option D) : MT := tB1 (ev2 opEq (evFrz (evLc [22] (evSeq (evVar 20)) (tgName 22) (befT op) (evC (.int 1)))) (evFrz (evLst (evNil))))
theorem list_set_same {ρ : List SV} {i : Nat} {x : SV} (h : ρ[i]? = some x) : ρ.set i x = ρ := by
  have hl : i < ρ.length := (List.getElem?_eq_some_iff.mp h).1
  refine List.ext_getElem? fun j => ?_
  by_cases hj : j = i
  · subst hj; rw [List.getElem?_set_self hl, h]
  · rw [List.getElem?_set_ne (Ne.symm hj)]
theorem min_eq {op : D → D → Option D} {lt : Rat → Rat → Bool} (hop : ∀ m p : Rat, op (.int (m.num * p.den)) (.int (p.num * m.den)) = some (.bl (lt m p))) {ρ : List SV} {s : S} {rs : List Rat} {p : Rat} (hl : ρ.length = 25) (h20 : ρ[20]? = some (.d (.lst (rs.map Qd)))) (h7 : ρ[7]? = some (.d (Qd p))) (h22 : ρ[22]? = some .un) (hr : Drs rs) (hp : Dr p) (hn : rs.length < 6) :
    minT op ⟨ρ, s⟩ = .ok (!rs.any fun m => lt m p) ⟨ρ, s⟩ := by
  have same : ρ.set 22 .un = ρ := list_set_same h22
  have L := lc_pure (vs := [22]) (tg := tgName 22) (ft := befT op) (fe := evC (.int 1)) (ρw := ρ) (s := s) (p := fun d => match d with | .tup [.int a, .int b] => rs.any fun m => decide (m.num = a ∧ (m.den : Int) = b ∧ lt m p = true) | _ => false) (e := fun _ => .int 1) (rs.map Qd) fun d hd => by
    obtain ⟨m, hm, rfl⟩ := List.mem_map.mp hd
    have dm := hr m hm
    have v22 := var_at (z := ⟨ρ.set 22 (.d (Qd m)), s⟩) (i := 22) (d := Qd m) (List.getElem?_set_self (by omega))
    have v7 := var_at (z := ⟨ρ.set 22 (.d (Qd m)), s⟩) (i := 7) (d := Qd p) (by show (ρ.set 22 _)[7]? = _; rw [List.getElem?_set_ne (by decide)]; exact h7)
    have m1 := mulB_sm (dm.bd.smn (by decide)) (hp.bd.smd (by decide))
    have m2 := mulB_sm (hp.bd.smn (by decide)) (dm.bd.smd (by decide))
    have w : (ρ.set 22 (.d (Qd m))).set 22 .un = ρ := by rw [List.set_set, same]
    refine ⟨_, _, _, rfl, ?_, w, fun _ => ⟨rfl, w⟩⟩
    have t : (rs.any fun q => decide (q.num = m.num ∧ (q.den : Int) = (m.den : Int) ∧ lt q p = true)) = lt m p := by
      rw [Bool.eq_iff_iff, List.any_eq_true]
      constructor
      · rintro ⟨q, _, hq⟩
        have hq := of_decide_eq_true hq
        have e : q = m := Rat.ext hq.1 (by exact_mod_cast hq.2.1)
        rw [← e]; exact hq.2.2
      · intro h
        exact ⟨m, hm, decide_eq_true ⟨rfl, rfl, h⟩⟩
    have a : befT op ⟨ρ.set 22 (.d (Qd m)), s⟩ = .ok (lt m p) ⟨ρ.set 22 (.d (Qd m)), s⟩ := by
      simp [befT, tB1, ev2, v22, v7, evC, atQ0, atQ1, opMul, m1, m2, lift, hop]
    rw [a]
    exact congrArg (fun b => R.ok b _) t.symm
  have v := var_at (z := ⟨ρ, s⟩) h20
  have e1 : evLc [22] (evSeq (evVar 20)) (tgName 22) (befT op) (evC (.int 1)) ⟨ρ, s⟩ = .ok (List.replicate (((rs.map Qd).filter fun d => match d with | .tup [.int a, .int b] => rs.any fun m => decide (m.num = a ∧ (m.den : Int) = b ∧ lt m p = true) | _ => false).length) (.int 1)) ⟨ρ, s⟩ := by
    unfold evLc evSeq
    rw [v, R.bind_ok]
    show (R.ok (rs.map Qd) (⟨ρ, s⟩ : Z)).bind _ = _
    rw [R.bind_ok, if_pos (by rw [List.length_map]; omega)]
    show (noErr (lcL [22] (tgName 22) (befT op) (evC (.int 1)) (rs.map Qd) ⟨ρ.set 22 .un, s⟩)).bind _ = _
    rw [same, L, List.map_const']
    show R.ok _ (⟨ρ.set 22 (keepD (ρ[22]?.getD .un)), s⟩ : Z) = _
    rw [h22]
    show R.ok _ (⟨ρ.set 22 .un, s⟩ : Z) = _
    rw [same]
  have q := opEq_ones (((rs.map Qd).filter fun d => match d with | .tup [.int a, .int b] => rs.any fun m => decide (m.num = a ∧ (m.den : Int) = b ∧ lt m p = true) | _ => false).length)
  unfold minT tB1 ev2 evFrz
  rw [e1]
  simp only [R.bind_ok, evLst, evNil, List.length_nil, Nat.zero_le, if_true, q, lift]
  congr 1
  rw [Bool.eq_iff_iff]
  simp only [beq_iff_eq, Bool.not_eq_true', List.length_eq_zero_iff, List.filter_eq_nil_iff, List.any_eq_false]
  constructor
  · intro h m hm hlt
    refine h (Qd m) (List.mem_map_of_mem hm) ?_
    show (rs.any fun q => decide (q.num = m.num ∧ (q.den : Int) = (m.den : Int) ∧ lt q p = true)) = true
    exact List.any_eq_true.mpr ⟨m, hm, decide_eq_true ⟨rfl, rfl, hlt⟩⟩
  · intro h d hd w
    obtain ⟨m, hm, rfl⟩ := List.mem_map.mp hd
    obtain ⟨q, hq, hq2⟩ := List.any_eq_true.mp (show (rs.any fun q => decide (q.num = m.num ∧ (q.den : Int) = (m.den : Int) ∧ lt q p = true)) = true from w)
    exact h q hq (of_decide_eq_true hq2).2.2
end K01

set_option Elab.async false
set_option linter.all false
set_option maxRecDepth 100000
set_option autoImplicit false
set_option exponentiation.threshold 300
namespace K01
open DL PySem PySem.Spec PyProof.Rows L2 TL PySem.StrLaws
def decQ (rs : List Rat) (g : Rat → Bool) (d : D) : Bool := match d with
  | .tup [.int a, .int b] => rs.any fun m => decide (m.num = a ∧ (m.den : Int) = b ∧ g m = true)
  | _ => false
theorem decQ_eq {rs : List Rat} {g : Rat → Bool} {m : Rat} (hm : m ∈ rs) : decQ rs g (Qd m) = g m := by
  show (rs.any fun q => decide (q.num = m.num ∧ (q.den : Int) = (m.den : Int) ∧ g q = true)) = g m
  rw [Bool.eq_iff_iff, List.any_eq_true]
  constructor
  · rintro ⟨q, _, hq⟩
    have hq := of_decide_eq_true hq
    have e : q = m := Rat.ext hq.1 (by exact_mod_cast hq.2.1)
    rw [← e]; exact hq.2.2
  · intro h
    exact ⟨m, hm, decide_eq_true ⟨rfl, rfl, h⟩⟩
theorem filt {rs : List Rat} (g : Rat → Bool) : (rs.map Qd).filter (decQ rs g) = (rs.filter g).map Qd := by
  rw [List.filter_map]
  congr 1
  exact List.filter_congr fun r hr => decQ_eq hr
/-- those of rs that none is before -/
def best (lt : Rat → Rat → Bool) (rs : List Rat) : List Rat := rs.filter fun p => !rs.any fun m => lt m p
theorem best_eq {op : D → D → Option D} {lt : Rat → Rat → Bool} (hop : ∀ m p : Rat, op (.int (m.num * p.den)) (.int (p.num * m.den)) = some (.bl (lt m p))) {i : Nat} {z : Z} {rs : List Rat} {x : SV} (hl : z.ρ.length = 25) (h20 : z.ρ[20]? = some (.d (.lst (rs.map Qd)))) (h7 : z.ρ[7]? = some x) (hx : keepD x = x) (h22 : z.ρ[22]? = some .un) (hr : Drs rs) (hn : rs.length < 6) :
    evOwn i (evLc [7] (evSeq (evVar 20)) (tgName 7) (minT op) (evVar 7)) z = .ok .nx ⟨z.ρ.set i (.own ((best lt rs).map Qd)), z.s⟩ := by
  have L := lc_pure (vs := [7]) (tg := tgName 7) (ft := minT op) (fe := evVar 7) (ρw := z.ρ.set 7 .un) (s := z.s) (p := decQ rs fun p => !rs.any fun m => lt m p) (e := id) (rs.map Qd) fun d hd => by
    obtain ⟨p, hp, rfl⟩ := List.mem_map.mp hd
    have e : (z.ρ.set 7 .un).set 7 (.d (Qd p)) = z.ρ.set 7 (.d (Qd p)) := List.set_set ..
    have w : (z.ρ.set 7 (.d (Qd p))).set 7 .un = z.ρ.set 7 .un := List.set_set ..
    have k7 : (z.ρ.set 7 (.d (Qd p)))[7]? = some (.d (Qd p)) := List.getElem?_set_self (by omega)
    have m := min_eq (op := op) hop (ρ := z.ρ.set 7 (.d (Qd p))) (s := z.s) (rs := rs) (p := p) (by simpa using hl) (by rw [List.getElem?_set_ne (by decide)]; exact h20) k7 (by rw [List.getElem?_set_ne (by decide)]; exact h22) hr (hr p hp) hn
    refine ⟨_, _, _, (show tgName 7 (Qd p) (z.ρ.set 7 .un) = some (z.ρ.set 7 (.d (Qd p))) from congrArg some e), ?_, w, fun _ => ⟨var_at k7, w⟩⟩
    rw [m, decQ_eq hp]
  unfold evOwn evLc evSeq
  rw [var_at h20, R.bind_ok]
  show (((R.ok (rs.map Qd) z).bind _).bind _) = _
  rw [R.bind_ok, if_pos (by rw [List.length_map]; omega)]
  have L2 : lcL [7] (tgName 7) (minT op) (evVar 7) (rs.map Qd) ⟨wipeR z.ρ [7], z.s⟩ = .ok (((rs.map Qd).filter (decQ rs fun p => !rs.any fun m => lt m p)).map id) ⟨z.ρ.set 7 .un, z.s⟩ := L
  rw [L2, List.map_id, filt]
  have b : backR z.ρ (z.ρ.set 7 .un) [7] = z.ρ := by
    show (z.ρ.set 7 .un).set 7 (keepD (z.ρ[7]?.getD .un)) = z.ρ
    rw [List.set_set, h7]
    show z.ρ.set 7 (keepD x) = z.ρ
    rw [hx, list_set_same h7]
  simp only [noErr_ok, R.bind_ok, b]
  rfl
def ltR (m p : Rat) : Bool := decide (m < p)
def gtR (m p : Rat) : Bool := decide (p < m)
theorem opLt_R (m p : Rat) : opLt (.int (m.num * p.den)) (.int (p.num * m.den)) = some (.bl (ltR m p)) := by
  show some (D.bl (decide _)) = _
  unfold ltR
  rw [decide_eq_decide.mpr (lt_cross p m)]
theorem opGt_R (m p : Rat) : opGt (.int (m.num * p.den)) (.int (p.num * m.den)) = some (.bl (gtR m p)) := by
  show some (D.bl (decide _)) = _
  unfold gtR
  rw [decide_eq_decide.mpr (lt_cross m p)]
theorem b12 {z : Z} {rs : List Rat} {x : SV} (hl : z.ρ.length = 25) (h20 : z.ρ[20]? = some (.d (.lst (rs.map Qd)))) (h7 : z.ρ[7]? = some x) (hx : keepD x = x) (h22 : z.ρ[22]? = some .un) (hr : Drs rs) (hn : rs.length < 6) :
    mb_12 z = .ok .nx ⟨z.ρ.set 8 (.own ((best ltR rs).map Qd)), z.s⟩ := best_eq (op := opLt) opLt_R hl h20 h7 hx h22 hr hn
theorem b13 {z : Z} {rs : List Rat} {x : SV} (hl : z.ρ.length = 25) (h20 : z.ρ[20]? = some (.d (.lst (rs.map Qd)))) (h7 : z.ρ[7]? = some x) (hx : keepD x = x) (h22 : z.ρ[22]? = some .un) (hr : Drs rs) (hn : rs.length < 6) :
    mb_13 z = .ok .nx ⟨z.ρ.set 9 (.own ((best gtR rs).map Qd)), z.s⟩ := best_eq (op := opGt) opGt_R hl h20 h7 hx h22 hr hn
theorem head_filter {rs : List Rat} {g : Rat → Bool} {m : Rat} (hm : m ∈ rs) (hg : g m = true) (hu : ∀ h ∈ rs, g h = true → h = m) : ∃ t, rs.filter g = m :: t := by
  cases e : rs.filter g with
  | nil =>
    have : m ∈ rs.filter g := List.mem_filter.mpr ⟨hm, hg⟩
    rw [e] at this; cases this
  | cons h t =>
    have : h ∈ rs.filter g := by rw [e]; exact List.mem_cons_self ..
    obtain ⟨h1, h2⟩ := List.mem_filter.mp this
    exact ⟨t, by rw [hu h h1 h2]⟩
theorem best_lo (r : Rat) (rs : List Rat) : ∃ t, best ltR (r :: rs) = (r :: rs).foldl lo r :: t := by
  obtain ⟨h1, h2, h3⟩ := lo_min (r :: rs) r
  have hm : (r :: rs).foldl lo r ∈ r :: rs := by
    rcases h1 with h | h
    · rw [h]; exact List.mem_cons_self ..
    · exact h
  refine head_filter hm ?_ fun h hh hg => ?_
  · rw [Bool.not_eq_true', List.any_eq_false]
    intro m hm2 w
    have := h3 m hm2
    have w := of_decide_eq_true (show decide (m < (r :: rs).foldl lo r) = true from w)
    grind
  · rw [Bool.not_eq_true', List.any_eq_false] at hg
    have k1 := h3 h hh
    have k2 : ¬ (r :: rs).foldl lo r < h := fun w => hg _ hm (decide_eq_true w)
    grind
theorem best_hi (r : Rat) (rs : List Rat) : ∃ t, best gtR (r :: rs) = (r :: rs).foldl hi r :: t := by
  obtain ⟨h1, h2, h3⟩ := hi_max (r :: rs) r
  have hm : (r :: rs).foldl hi r ∈ r :: rs := by
    rcases h1 with h | h
    · rw [h]; exact List.mem_cons_self ..
    · exact h
  refine head_filter hm ?_ fun h hh hg => ?_
  · rw [Bool.not_eq_true', List.any_eq_false]
    intro m hm2 w
    have := h3 m hm2
    have w := of_decide_eq_true (show decide ((r :: rs).foldl hi r < m) = true from w)
    grind
  · rw [Bool.not_eq_true', List.any_eq_false] at hg
    have k1 := h3 h hh
    have k2 : ¬ h < (r :: rs).foldl hi r := fun w => hg _ hm (decide_eq_true w)
    grind
theorem ne_Qs (rs : List Rat) : opNe (.lst (rs.map Qd)) (.lst []) = some (.bl (!rs.isEmpty)) := by
  have e1 : ∀ rs : List Rat, toPs (rs.map Qd) = some (rs.map fun r => .tuple [.int r.num, .int r.den]) := by
    intro rs
    induction rs with
    | nil => rfl
    | cons r rs ih =>
      show (match toP (Qd r), toPs (rs.map Qd) with | some p, some ps => some (p :: ps) | _, _ => none) = _
      rw [ih]; rfl
  have e2 : ∀ rs : List Rat, PyData.canLayAll0 (rs.map fun r => PyData.tuple [.int r.num, .int r.den]) = true ∧ PyData.depthAll (rs.map fun r => PyData.tuple [.int r.num, .int r.den]) ≤ 1 := by
    intro rs
    induction rs with
    | nil => simp [PyData.canLayAll0, PyData.depthAll]
    | cons r rs ih =>
      refine ⟨by simp [PyData.canLayAll0, PyData.canLay0]; simpa [PyData.canLayAll0, PyData.canLay0] using ih.1, ?_⟩
      rw [List.map_cons]
      show max (PyData.depth (.tuple [.int r.num, .int r.den])) _ ≤ 1
      have : PyData.depth (.tuple [.int r.num, .int r.den]) = 1 := by simp [PyData.depth, PyData.depthAll]
      rw [this]
      exact Nat.max_le.mpr ⟨Nat.le_refl _, ih.2⟩
  have t1 : toP (.lst (rs.map Qd)) = some (.list (rs.map fun r => .tuple [.int r.num, .int r.den])) := by
    show (toPs _).map PyData.list = _
    rw [e1]; rfl
  have t2 : toP (.lst []) = some (.list []) := rfl
  have s1 : SeqAt.shaped (.list (rs.map fun r => PyData.tuple [.int r.num, .int r.den])) = true := by
    unfold SeqAt.shaped
    rw [show PyData.canLay0 (.list (rs.map fun r => PyData.tuple [.int r.num, .int r.den])) = PyData.canLayAll0 (rs.map fun r => PyData.tuple [.int r.num, .int r.den]) by simp [PyData.canLay0], (e2 rs).1]
    rw [show PyData.depth (.list (rs.map fun r => PyData.tuple [.int r.num, .int r.den])) = PyData.depthAll (rs.map fun r => PyData.tuple [.int r.num, .int r.den]) + 1 by simp [PyData.depth]]
    have := (e2 rs).2
    rw [decide_eq_true (by omega)]; rfl
  have s2 : SeqAt.shaped (.list []) = true := by simp [SeqAt.shaped, PyData.canLay0, PyData.canLayAll0, PyData.depth, PyData.depthAll]
  unfold opNe eqD
  rw [t1, t2]
  simp only [s1, s2]
  cases rs with
  | nil => simp [PyData.eqv, PyData.eqvAll]
  | cons r rs => simp [PyData.eqv, PyData.eqvAll]
end K01

set_option Elab.async false
set_option linter.all false
set_option maxRecDepth 100000
set_option autoImplicit false
set_option exponentiation.threshold 300
namespace K01
open DL PySem PySem.Spec PyProof.Rows L2 TL PySem.StrLaws
theorem okNE : okErr NE = true := by unfold okErr; exact beq_self_eq_true _
theorem neNE : opNe (.str NE) (.str NE) = some (.bl false) := by
  have n := opNe_str ne_ok ne_ok
  rw [beq_self_eq_true] at n
  exact n
theorem told_ok {f : ME} {z z1 : Z} {d : D} (h : f z = .ok d z1) : evTold okErr NE f z = .ok d z1 := by
  unfold evTold
  rw [h]
theorem told_err {f : ME} {z z1 : Z} (h : f z = .err NE z1) : evTold okErr NE f z = .ok (.str NE) z1 := by
  unfold evTold
  rw [h]
  show (if okErr NE = true then _ else _) = _
  rw [if_pos okNE]
theorem call1_ok {f : MF} {fa : ME} {z z1 : Z} {d r : D} {s' : S} (h : fa z = .ok d z1) (e : f [d] z1.s = .ok r s') : evCall 1 f [] (evCons fa evNil) z = .ok r ⟨z1.ρ, s'⟩ := by
  unfold evCall
  rw [cons_ok (fl := evNil) h rfl]
  simp [e]
theorem call1_err {f : MF} {fa : ME} {z z1 : Z} {d : D} {c : Str} {s' : S} (h : fa z = .ok d z1) (e : f [d] z1.s = .err c s') : evCall 1 f [] (evCons fa evNil) z = .err c ⟨z1.ρ, s'⟩ := by
  unfold evCall
  rw [cons_ok (fl := evNil) h rfl]
  simp [e]
/-- an own list is read -/
theorem own_at {i : Nat} {z : Z} {ds : List D} (h : z.ρ[i]? = some (.own ds)) : evVar i z = .ok (.lst ds) ⟨z.ρ.set i (.d (.lst ds)), z.s⟩ := by
  unfold evVar
  rw [h]
/-- the first of a list, or that there is none -/
def headD : List Rat → D
  | [] => .str NE
  | r :: _ => Qd r
theorem head_at {i : Nat} {z : Z} {rs : List Rat} (hi : i < z.ρ.length) (h : z.ρ[i]? = some (.own (rs.map Qd))) : evIf (tB1 (ev2 opNe (evVar i) (evFrz (evLst (evNil))))) (ev2 ixD (evVar i) (evC (.int 0))) (evC (.str NE)) z = .ok (headD rs) ⟨z.ρ.set i (.d (.lst (rs.map Qd))), z.s⟩ := by
  have v := own_at h
  have v2 := var_at (z := ⟨z.ρ.set i (.d (.lst (rs.map Qd))), z.s⟩) (i := i) (d := .lst (rs.map Qd)) (List.getElem?_set_self hi)
  have n := ne_Qs rs
  cases rs with
  | nil =>
    unfold evIf tB1 ev2
    rw [v]
    simp only [R.bind_ok, evFrz, evLst, evNil, List.length_nil, Nat.zero_le, if_true, n, lift]
    simp [headD, evC]
  | cons r rs =>
    simp only [List.map_cons] at v v2 n
    unfold evIf tB1 ev2
    rw [v]
    simp only [R.bind_ok, evFrz, evLst, evNil, List.length_nil, Nat.zero_le, if_true, n, lift]
    have i0 := ix0 (Qd r) (rs.map Qd)
    simp only [List.isEmpty_cons, Bool.not_false, if_true, v2, R.bind_ok, evC, List.map_cons, i0, headD]
theorem b14 {z : Z} {rs : List Rat} (hl : z.ρ.length = 25) (h20 : z.ρ[20]? = some (.d (.lst (rs.map Qd)))) (h6 : z.ρ[6]? = some (.d (Qd (rs.foldl (· + ·) 0)))) (h8 : z.ρ[8]? = some (.own ((best ltR rs).map Qd))) (h9 : z.ρ[9]? = some (.own ((best gtR rs).map Qd))) (hr : Drs rs) (hn : rs.length < 6) :
    mb_14 z = .ok .nx ⟨(z.ρ.set 8 (.d (.lst ((best ltR rs).map Qd)))).set 9 (.d (.lst ((best gtR rs).map Qd))), z.s⟩ := by
  have t := total_eq z.s rs hr (by omega)
  have v20 := var_at h20
  have v6 := var_at h6
  have t1 : evCall 1 f_total [] (evCons (evVar 20) (evNil)) z = .ok (Qd (rs.foldl (· + ·) 0)) z := by
    simp [evCall, evCons, evNil, v20, t]
  have c1 := ne_false t1 v6 (neQ _)
  have key : ∀ {f : MF} {rs2 : List Rat} {i : Nat} {w : Z}, i < w.ρ.length → w.ρ[20]? = some (.d (.lst (rs.map Qd))) → w.ρ[i]? = some (.own (rs2.map Qd)) → (evTold okErr NE (evCall 1 f [] (evCons (evVar 20) (evNil))) w = .ok (headD rs2) w) →
      tB1 (ev2 opNe (evTold okErr NE (evCall 1 f [] (evCons (evVar 20) (evNil)))) (evIf (tB1 (ev2 opNe (evVar i) (evFrz (evLst (evNil))))) (ev2 ixD (evVar i) (evC (.int 0))) (evC (.str NE)))) w = .ok false ⟨w.ρ.set i (.d (.lst (rs2.map Qd))), w.s⟩ := by
    intro f rs2 i w hi hw hi2 ht
    refine ne_false ht (head_at hi hi2) ?_
    cases rs2 with
    | nil => exact neNE
    | cons r r2 => exact neQ r
  have lo1 : ∀ w : Z, w.ρ[20]? = some (.d (.lst (rs.map Qd))) → evTold okErr NE (evCall 1 f_least_of [] (evCons (evVar 20) (evNil))) w = .ok (headD (best ltR rs)) w := by
    intro w hw
    have e := least_of_eq w.s rs hr
    have v := var_at hw
    cases rs with
    | nil =>
      have c : evCall 1 f_least_of [] (evCons (evVar 20) (evNil)) w = .err NE w := call1_err v e
      exact told_err c
    | cons r rs =>
      obtain ⟨t, ht⟩ := best_lo r rs
      rw [ht]
      have c : evCall 1 f_least_of [] (evCons (evVar 20) (evNil)) w = .ok (Qd ((r :: rs).foldl lo r)) w := call1_ok v e
      exact told_ok c
  have hi1 : ∀ w : Z, w.ρ[20]? = some (.d (.lst (rs.map Qd))) → evTold okErr NE (evCall 1 f_greatest_of [] (evCons (evVar 20) (evNil))) w = .ok (headD (best gtR rs)) w := by
    intro w hw
    have e := greatest_of_eq w.s rs hr
    have v := var_at hw
    cases rs with
    | nil =>
      have c : evCall 1 f_greatest_of [] (evCons (evVar 20) (evNil)) w = .err NE w := call1_err v e
      exact told_err c
    | cons r rs =>
      obtain ⟨t, ht⟩ := best_hi r rs
      rw [ht]
      have c : evCall 1 f_greatest_of [] (evCons (evVar 20) (evNil)) w = .ok (Qd ((r :: rs).foldl hi r)) w := call1_ok v e
      exact told_ok c
  have k1 := key (by omega) h20 h8 (lo1 z h20)
  have h20' : (z.ρ.set 8 (.d (.lst ((best ltR rs).map Qd))))[20]? = some (.d (.lst (rs.map Qd))) := by rw [List.getElem?_set_ne (by decide)]; exact h20
  have k2 := key (w := ⟨z.ρ.set 8 (.d (.lst ((best ltR rs).map Qd))), z.s⟩) (i := 9) (by simp; omega) h20' (by show (z.ρ.set 8 _)[9]? = _; rw [List.getElem?_set_ne (by decide)]; exact h9) (hi1 _ h20')
  exact check (or_false c1 (or_false k1 k2))
theorem b15 {z : Z} {a : Rat} (h18 : z.ρ[18]? = some (.d (Qd a))) (da : Dr a) : mb_15 z = .ok .nx ⟨z.ρ.set 10 (.d (.str (tx a))), z.s⟩ := by
  have e := text_eq da h18
  unfold mb_15 evSet
  rw [e]; rfl
theorem b16 {z : Z} {a : Rat} (h18 : z.ρ[18]? = some (.d (Qd a))) (h10 : z.ρ[10]? = some (.d (.str (tx a)))) (da : Dr a) : mb_16 z = .ok .nx z := by
  obtain ⟨l, o⟩ := tx_ok da
  have s1 := shown_eq z.s da
  have r1 := read_eq z.s l
  rw [rd_tx da] at r1
  have v := var_at h18
  have w := var_at h10
  have c1 : evCall 1 f_shown [] (evCons (evVar 18) (evNil)) z = .ok (.str (tx a)) z := by simp [evCall, evCons, evNil, v, s1]
  have c2 : evCall 1 f_read [] (evCons (evVar 10) (evNil)) z = .ok (Qd a) z := by simp [evCall, evCons, evNil, w, r1]
  have n := opNe_str o o
  rw [beq_self_eq_true] at n
  exact check (or_false (ne_false c1 w n) (ne_false c2 v (neQ a)))
def upE : ML := evLc [21] (evRng2 (evCons (ev1 evNeg (evC (.int 40))) (evCons (evC (.int 41)) (evNil)))) (tgName 21) (tB1 (ev2 opLe (ev2 opMul (evVar 21) (ev2 ixD (evVar 18) (evC (.int 1)))) (ev2 ixD (evVar 18) (evC (.int 0))))) (evVar 21)
theorem up_eq {z : Z} {a : Rat} (hl : z.ρ.length = 25) (h18 : z.ρ[18]? = some (.d (Qd a))) (h21 : z.ρ[21]? = some .un) (da : Dr a) : upE z = .ok (upTo (a.num / a.den)) z := by
  have same : z.ρ.set 21 .un = z.ρ := list_set_same h21
  have d0 := a.den_nz
  have pos : (0 : Int) < a.den := by omega
  have L := lc_pure (vs := [21]) (tg := tgName 21) (ft := tB1 (ev2 opLe (ev2 opMul (evVar 21) (ev2 ixD (evVar 18) (evC (.int 1)))) (ev2 ixD (evVar 18) (evC (.int 0))))) (fe := evVar 21) (ρw := z.ρ) (s := z.s) (p := fun d => match d with | .int k => decide (k ≤ a.num / a.den) | _ => false) (e := id) (rangeD (-40) 81) fun d hd => by
    unfold rangeD at hd
    obtain ⟨i, hi, rfl⟩ := List.mem_map.mp hd
    have hi := List.mem_range.mp hi
    have k21 : (z.ρ.set 21 (.d (.int (-40 + (i : Int)))))[21]? = some (.d (.int (-40 + (i : Int)))) := List.getElem?_set_self (by omega)
    have v21 := var_at (z := ⟨z.ρ.set 21 (.d (.int (-40 + (i : Int)))), z.s⟩) k21
    have v18 := var_at (z := ⟨z.ρ.set 21 (.d (.int (-40 + (i : Int)))), z.s⟩) (i := 18) (d := Qd a) (by show (z.ρ.set 21 _)[18]? = _; rw [List.getElem?_set_ne (by decide)]; exact h18)
    have m1 : mulB (-40 + (i : Int)) a.den = true := mulB_sm (sm_of (n := 20) (by omega) (by decide)) (da.bd.smd (by decide))
    have w : (z.ρ.set 21 (.d (.int (-40 + (i : Int))))).set 21 .un = z.ρ := by rw [List.set_set, same]
    refine ⟨_, _, _, rfl, ?_, w, fun _ => ⟨v21, w⟩⟩
    have q : decide ((-40 + (i : Int)) * a.den ≤ a.num) = decide (-40 + (i : Int) ≤ a.num / a.den) := decide_eq_decide.mpr (Int.le_ediv_iff_mul_le pos).symm
    simp only [tB1, ev2, v21, v18, evC, R.bind_ok, atQ0, atQ1, lift, opMul, m1, if_true, opLe, q]
  have rg : evRng2 (evCons (ev1 evNeg (evC (.int 40))) (evCons (evC (.int 41)) (evNil))) z = .ok (rangeD (-40) 81) z := rfl
  unfold upE evLc
  rw [rg, R.bind_ok, if_pos (by unfold rangeD; simp)]
  show (noErr (lcL [21] _ _ _ (rangeD (-40) 81) ⟨z.ρ.set 21 .un, z.s⟩)).bind _ = _
  rw [same, L, List.map_id]
  show R.ok _ (⟨z.ρ.set 21 (keepD (z.ρ[21]?.getD .un)), z.s⟩ : Z) = _
  rw [h21]
  show R.ok _ (⟨z.ρ.set 21 .un, z.s⟩ : Z) = _
  rw [same]
  congr 1
  unfold rangeD upTo
  rw [List.filter_map, List.filter_map, List.map_map]
  rfl
theorem b17 {z : Z} {a : Rat} (hl : z.ρ.length = 25) (h18 : z.ρ[18]? = some (.d (Qd a))) (h21 : z.ρ[21]? = some .un) (da : Dr a) : mb_17 z = .ok .nx z := by
  have u := up_eq hl h18 h21 da
  have b := below_eq z.s da
  have c1 : evCall 1 f_whole_below [] (evCons (evVar 18) (evNil)) z = .ok (.int (a.num / a.den)) z := by simp [evCall, evCons, evNil, var_at h18, b]
  have f : evFrz upE z = .ok (.lst (upTo (a.num / a.den))) z := by
    unfold evFrz
    rw [u]; rfl
  have g : ev2 ixD (evFrz upE) (ev2 opSub (evB bLen (evCons (evFrz upE) (evNil))) (evC (.int 1))) z = .ok (.int (a.num / a.den)) z := by
    have x := last_ix (below_bd da)
    have y : ev2 opSub (evB bLen (evCons (evFrz upE) (evNil))) (evC (.int 1)) z = .ok (.int (((upTo (a.num / a.den)).length : Int) - 1)) z := by
      have q : evB bLen (evCons (evFrz upE) (evNil)) z = .ok (.int ((upTo (a.num / a.den)).length : Int)) z := by
        unfold evB
        rw [cons_ok (fl := evNil) f rfl]
        rfl
      show (evB bLen (evCons (evFrz upE) (evNil)) z).bind _ = _
      rw [q]; rfl
    show (evFrz upE z).bind (fun d z1 => (ev2 opSub (evB bLen (evCons (evFrz upE) (evNil))) (evC (.int 1)) z1).bind fun e z2 => lift (ixD d e) z2) = _
    rw [f, R.bind_ok, y, R.bind_ok, x]
    rfl
  exact check (ne_false c1 g (by simp [opNe_int]))
theorem b18 {z : Z} {n : Nat} (hz : z.ρ[1]? = some (.d .dice)) (hv : z.ρ[21]? = some .un) (h : SOk (n + 300) z.s) : ∃ x s', mb_18 z = .ok .nx ⟨z.ρ.set 17 (.d (.str x)), s'⟩ ∧ txtOk x ∧ SOk n s' := by
  obtain ⟨x, s', e, o1, o2⟩ := drawn_text hv hz h
  refine ⟨x, s', ?_, o1, o2⟩
  have d : mb_18 = evSet 17 (ev2 mJoin (onStr (evC (.str em))) (evFrz (evLc [21] (evRng1 (evCons (rollE 7) evNil)) (tgName 21) evYes (ev2 ixD (evC (.str sgn)) (rollE 7))))) := rfl
  rw [d]
  unfold evSet
  rw [e]; rfl
theorem b19 {z : Z} {x : Str} (h17 : z.ρ[17]? = some (.d (.str x))) (hx : txtOk x) : mb_19 z = .ok .nx ⟨z.ρ.set 4 (.d (rdD x)), z.s⟩ := by
  have e := law_read_eq z.s hx.1 hx.2
  have v := var_at h17
  simp [mb_19, evSet, evCall, evCons, evNil, v, e]
theorem b20 {z : Z} {x : Str} (h17 : z.ρ[17]? = some (.d (.str x))) (h4 : z.ρ[4]? = some (.d (rdD x))) (hx : txtOk x) : mb_20 z = .ok .nx z := by
  have e := read_eq z.s hx.1
  have v := var_at h17
  have w := var_at h4
  unfold rdD at w
  cases hr : rdP x with
  | none =>
    rw [hr] at e w
    simp only at e w
    have c : evCall 1 f_read [] (evCons (evVar 17) (evNil)) z = .err NE z := by simp [evCall, evCons, evNil, v, e]
    have g : evIf (tB1 (ev2 opNotN (evVar 4) (evC .non))) (evVar 4) (evC (.str NE)) z = .ok (.str NE) z := by simp [evIf, tB1, ev2, w, evC, opNotN, lift]
    exact check (ne_false (told_err c) g neNE)
  | some r =>
    rw [hr] at e w
    simp only at e w
    have c : evCall 1 f_read [] (evCons (evVar 17) (evNil)) z = .ok (Qd r) z := by simp [evCall, evCons, evNil, v, e]
    have g : evIf (tB1 (ev2 opNotN (evVar 4) (evC .non))) (evVar 4) (evC (.str NE)) z = .ok (Qd r) z := by
      have t : opNotN (Qd r) .non = some (.bl true) := rfl
      simp [evIf, tB1, ev2, w, evC, t, lift]
    exact check (ne_false (told_ok c) g (neQ r))
end K01

set_option Elab.async false
set_option linter.all false
set_option maxRecDepth 100000
set_option autoImplicit false
set_option exponentiation.threshold 300
namespace K01
open DL PySem PySem.Spec PyProof.Rows L2 TL PySem.StrLaws
theorem b21 {z : Z} {n : Nat} (hv : z.ρ[23]? = some .un) (hv2 : z.ρ[21]? = some .un) (hz : z.ρ[1]? = some (.d .dice)) (h : SOk (n + 18) z.s) :
    ∃ x y w s', mb_21 z = .ok .nx ⟨z.ρ.set 11 (.own [x, y, w]), s'⟩ ∧ rowOk x ∧ rowOk y ∧ rowOk w ∧ SOk n s' := by
  obtain ⟨x, y, w, s', e, hx, hy, hw, o⟩ := rows_at hv hv2 hz h
  refine ⟨x, y, w, s', ?_, hx, hy, hw, o⟩
  have d : mb_21 = evOwn 11 (evLc [23] (evRng1 (evCons (evC (.int 3)) evNil)) (tgName 23) evYes (evFrz (evLc [21] (evRng1 (evCons (evC (.int 3)) evNil)) (tgName 21) evYes drawE))) := rfl
  rw [d]
  unfold evOwn
  rw [e]; rfl
theorem b22 (z : Z) : mb_22 z = .ok .nx ⟨z.ρ.set 6 (.d (Qd 0)), z.s⟩ := rfl
theorem call2_ok {f : MF} {fa fb : ME} {z z1 z2 : Z} {d e r : D} {s' : S} (h1 : fa z = .ok d z1) (h2 : fb z1 = .ok e z2) (h : f [d, e] z2.s = .ok r s') : evCall 2 f [] (evCons fa (evCons fb evNil)) z = .ok r ⟨z2.ρ, s'⟩ := by
  unfold evCall
  rw [cons_ok h1 (cons_ok (fl := evNil) h2 rfl)]
  simp [h]
theorem ix_ok {fa fb : ME} {z z1 z2 : Z} {d e r : D} (h1 : fa z = .ok d z1) (h2 : fb z1 = .ok e z2) (h : ixD d e = some r) : ev2 ixD fa fb z = .ok r z2 := by
  unfold ev2
  rw [h1, R.bind_ok, h2, R.bind_ok, h]; rfl
theorem any11 {ρ : List SV} {s : S} {ds : List D} (h : ρ[11]? = some (.own ds) ∨ ρ[11]? = some (.d (.lst ds))) : evVar 11 ⟨ρ, s⟩ = .ok (.lst ds) ⟨ρ.set 11 (.d (.lst ds)), s⟩ := by
  rcases h with h | h
  · exact own_at (z := ⟨ρ, s⟩) h
  · have := var_at (z := ⟨ρ, s⟩) h
    rw [this, list_set_same h]
def detB : MS := (evSet 6 (evCall 2 f_law_plus [] (evCons (evVar 6) (evCons (evCall 2 f_law_times [] (evCons (evTup (evCons (evVar 15) (evCons (evC (.int 1)) (evNil)))) (evCons (evCall 2 f_law_times [] (evCons (ev2 ixD (ev2 ixD (evVar 11) (evC (.int 0))) (evVar 12)) (evCons (evCall 2 f_law_times [] (evCons (ev2 ixD (ev2 ixD (evVar 11) (evC (.int 1))) (evVar 13)) (evCons (ev2 ixD (ev2 ixD (evVar 11) (evC (.int 2))) (evVar 14)) (evNil)))) (evNil)))) (evNil)))) (evNil)))))
def detT : MG := tgTup 4 (tgCons (tgName 12) (tgCons (tgName 13) (tgCons (tgName 14) (tgCons (tgName 15) (tgNil)))))
structure DetAt (x y w : D) (acc : Rat) (ρ : List SV) : Prop where
  len : ρ.length = 25
  whole : ρ[6]? = some (.d (Qd acc))
  rows : ρ[11]? = some (.own [x, y, w]) ∨ ρ[11]? = some (.d (.lst [x, y, w]))
  last : ρ[24]? = some .un
theorem det_turn {x y w : D} {acc p q r G : Rat} {n : Nat} {ρ : List SV} {s : S} {i j k g : Int} (A : DetAt x y w acc ρ) (hn : Bd n acc) (hN : n ≤ 1000) (hx : ixD x (.int i) = some (Qd p)) (hy : ixD y (.int j) = some (Qd q)) (hw : ixD w (.int k) = some (Qd r)) (hG : Qd G = .tup [.int g, .int 1]) (bG : Bd 1 G) (dp : Dr p) (dq : Dr q) (dr : Dr r) :
    ∃ ρ1 ρ2, detT (.tup [.int i, .int j, .int k, .int g]) ρ = some ρ1 ∧ detB ⟨ρ1, s⟩ = .ok .nx ⟨ρ2, s⟩ ∧ DetAt x y w (acc + G * (p * (q * r))) ρ2 ∧ ρ2[11]? = some (.d (.lst [x, y, w])) ∧ Bd (n + 17) (acc + G * (p * (q * r))) := by
  obtain ⟨hl, h6, h11, h24⟩ := A
  let ρ1 := (((ρ.set 12 (.d (.int i))).set 13 (.d (.int j))).set 14 (.d (.int k))).set 15 (.d (.int g))
  have g1 : ∀ {m : Nat}, m ≠ 12 → m ≠ 13 → m ≠ 14 → m ≠ 15 → ρ1[m]? = ρ[m]? := fun {m} a b c d => by
    show ((((ρ.set 12 _).set 13 _).set 14 _).set 15 _)[m]? = _
    rw [List.getElem?_set_ne (Ne.symm d), List.getElem?_set_ne (Ne.symm c), List.getElem?_set_ne (Ne.symm b), List.getElem?_set_ne (Ne.symm a)]
  have l1 : ρ1.length = 25 := by
    show ((((ρ.set 12 _).set 13 _).set 14 _).set 15 _).length = 25
    simpa using hl
  have v6 := var_at (z := ⟨ρ1, s⟩) (i := 6) (d := Qd acc) (by show ρ1[6]? = _; rw [g1 (by decide) (by decide) (by decide) (by decide)]; exact h6)
  have v15 := var_at (z := ⟨ρ1, s⟩) (i := 15) (d := .int g) (by show ρ1[15]? = _; exact List.getElem?_set_self (by simp; omega))
  have r11 : ρ1[11]? = some (.own [x, y, w]) ∨ ρ1[11]? = some (.d (.lst [x, y, w])) := by rw [g1 (by decide) (by decide) (by decide) (by decide)]; exact h11
  let ρ2 := ρ1.set 11 (.d (.lst [x, y, w]))
  have g2 : ∀ {m : Nat}, m ≠ 11 → ρ2[m]? = ρ1[m]? := fun {m} a => List.getElem?_set_ne (Ne.symm a)
  have l2 : ρ2.length = 25 := by show (ρ1.set 11 _).length = 25; simpa using l1
  have k11 : ρ2[11]? = some (.d (.lst [x, y, w])) := List.getElem?_set_self (by omega)
  have e1 := any11 (s := s) r11
  have e2 := var_at (z := ⟨ρ2, s⟩) k11
  have k12 : ρ1[12]? = some (.d (.int i)) := by
    show ((((ρ.set 12 _).set 13 _).set 14 _).set 15 _)[12]? = _
    rw [List.getElem?_set_ne (by decide), List.getElem?_set_ne (by decide), List.getElem?_set_ne (by decide), List.getElem?_set_self (by omega)]
  have k13 : ρ1[13]? = some (.d (.int j)) := by
    show ((((ρ.set 12 _).set 13 _).set 14 _).set 15 _)[13]? = _
    rw [List.getElem?_set_ne (by decide), List.getElem?_set_ne (by decide), List.getElem?_set_self (by simp; omega)]
  have k14 : ρ1[14]? = some (.d (.int k)) := by
    show ((((ρ.set 12 _).set 13 _).set 14 _).set 15 _)[14]? = _
    rw [List.getElem?_set_ne (by decide), List.getElem?_set_self (by simp; omega)]
  have v12 := var_at (z := ⟨ρ2, s⟩) (i := 12) (d := .int i) ((g2 (by decide)).trans k12)
  have v13 := var_at (z := ⟨ρ2, s⟩) (i := 13) (d := .int j) ((g2 (by decide)).trans k13)
  have v14 := var_at (z := ⟨ρ2, s⟩) (i := 14) (d := .int k) ((g2 (by decide)).trans k14)
  have c0 : ev2 ixD (ev2 ixD (evVar 11) (evC (.int 0))) (evVar 12) ⟨ρ1, s⟩ = .ok (Qd p) ⟨ρ2, s⟩ := ix_ok (ix_ok e1 rfl (r := x) rfl) v12 hx
  have c1 : ev2 ixD (ev2 ixD (evVar 11) (evC (.int 1))) (evVar 13) ⟨ρ2, s⟩ = .ok (Qd q) ⟨ρ2, s⟩ := ix_ok (ix_ok e2 rfl (r := y) rfl) v13 hy
  have c2 : ev2 ixD (ev2 ixD (evVar 11) (evC (.int 2))) (evVar 14) ⟨ρ2, s⟩ = .ok (Qd r) ⟨ρ2, s⟩ := ix_ok (ix_ok e2 rfl (r := w) rfl) v14 hw
  have t1 := ltimes_eq s dq.bd dr.bd (by decide)
  have B1 := dq.bd.mul dr.bd
  have t2 := ltimes_eq s dp.bd B1 (by decide)
  have B2 := dp.bd.mul B1
  have t3 := ltimes_eq s bG B2 (by decide)
  have B3 := bG.mul B2
  have t4 := lplus_eq s hn B3 (by omega)
  have B4 := hn.add B3
  have d1 := call2_ok c1 c2 t1
  have d2 := call2_ok c0 d1 t2
  have tp : evTup (evCons (evVar 15) (evCons (evC (.int 1)) (evNil))) ⟨ρ1, s⟩ = .ok (Qd G) ⟨ρ1, s⟩ := by
    rw [hG]
    exact tup_ok (cons_ok v15 (cons_ok rfl rfl)) (by simp)
  have d3 := call2_ok tp d2 t3
  have d4 := call2_ok v6 d3 t4
  refine ⟨ρ1, ρ2.set 6 (.d (Qd (acc + G * (p * (q * r))))), ?_, ?_, ⟨by simpa using l2, List.getElem?_set_self (by omega), .inr ?_, ?_⟩, ?_, B4.mono (by omega)⟩
  · rfl
  · unfold detB evSet
    rw [d4]; rfl
  · rw [List.getElem?_set_ne (by decide)]; exact k11
  · rw [List.getElem?_set_ne (by decide), g2 (by decide), g1 (by decide) (by decide) (by decide) (by decide)]; exact h24
  · rw [List.getElem?_set_ne (by decide)]; exact k11
def tp4 (i j k g : Int) : D := .tup [.int i, .int j, .int k, .int g]
def permD : List D := [tp4 0 1 2 1, tp4 1 2 0 1, tp4 2 0 1 1, tp4 0 2 1 (-1), tp4 1 0 2 (-1), tp4 2 1 0 (-1)]
theorem b23 {z : Z} {a b c d e f g h i : Rat} (ha : Dr a) (hb : Dr b) (hc : Dr c) (hd : Dr d) (he : Dr e) (hf : Dr f) (hg : Dr g) (hh : Dr h) (hi : Dr i)
    (A : DetAt (.lst [Qd a, Qd b, Qd c]) (.lst [Qd d, Qd e, Qd f]) (.lst [Qd g, Qd h, Qd i]) 0 z.ρ) :
    ∃ ρ', mb_23 z = .ok .nx ⟨ρ', z.s⟩ ∧ DetAt (.lst [Qd a, Qd b, Qd c]) (.lst [Qd d, Qd e, Qd f]) (.lst [Qd g, Qd h, Qd i]) (a * (e * i - f * h) - b * (d * i - f * g) + c * (d * h - e * g)) ρ' ∧ ρ'[11]? = some (.d (.lst [.lst [Qd a, Qd b, Qd c], .lst [Qd d, Qd e, Qd f], .lst [Qd g, Qd h, Qd i]])) := by
  have i0 : ∀ x y z : D, ixD (.lst [x, y, z]) (.int 0) = some x := fun _ _ _ => rfl
  have i1 : ∀ x y z : D, ixD (.lst [x, y, z]) (.int 1) = some y := fun _ _ _ => rfl
  have i2 : ∀ x y z : D, ixD (.lst [x, y, z]) (.int 2) = some z := fun _ _ _ => rfl
  have q1 : Qd 1 = .tup [.int 1, .int 1] := rfl
  have q2 : Qd (-1) = .tup [.int (-1), .int 1] := rfl
  have B1 : Bd 1 1 := ⟨by decide, by decide⟩
  have B2 : Bd 1 (-1) := ⟨by decide, by decide⟩
  obtain ⟨x1, y1, u1, w1, A1, _, n1⟩ := det_turn (s := z.s) A (n := 1) ⟨by decide, by decide⟩ (by decide) (i0 _ _ _) (i1 _ _ _) (i2 _ _ _) q1 B1 ha he hi
  obtain ⟨x2, y2, u2, w2, A2, _, n2⟩ := det_turn (s := z.s) A1 n1 (by decide) (i1 _ _ _) (i2 _ _ _) (i0 _ _ _) q1 B1 hb hf hg
  obtain ⟨x3, y3, u3, w3, A3, _, n3⟩ := det_turn (s := z.s) A2 n2 (by decide) (i2 _ _ _) (i0 _ _ _) (i1 _ _ _) q1 B1 hc hd hh
  obtain ⟨x4, y4, u4, w4, A4, _, n4⟩ := det_turn (s := z.s) A3 n3 (by decide) (i0 _ _ _) (i2 _ _ _) (i1 _ _ _) q2 B2 ha hf hh
  obtain ⟨x5, y5, u5, w5, A5, _, n5⟩ := det_turn (s := z.s) A4 n4 (by decide) (i1 _ _ _) (i0 _ _ _) (i2 _ _ _) q2 B2 hb hd hi
  obtain ⟨x6, y6, u6, w6, A6, r6, n6⟩ := det_turn (s := z.s) A5 n5 (by decide) (i2 _ _ _) (i1 _ _ _) (i0 _ _ _) q2 B2 hc he hg
  rw [det_id] at A6
  refine ⟨y6, ?_, A6, r6⟩
  have df : mb_23 z = forL detT detB permD z := rfl
  rw [df]
  have f6 : forL detT detB [tp4 2 1 0 (-1)] ⟨y5, z.s⟩ = .ok .nx ⟨y6, z.s⟩ := forL_cons (z := ⟨y5, z.s⟩) u6 w6
  have f5 : forL detT detB [tp4 1 0 2 (-1), tp4 2 1 0 (-1)] ⟨y4, z.s⟩ = .ok .nx ⟨y6, z.s⟩ := (forL_cons (z := ⟨y4, z.s⟩) u5 w5).trans f6
  have f4 : forL detT detB [tp4 0 2 1 (-1), tp4 1 0 2 (-1), tp4 2 1 0 (-1)] ⟨y3, z.s⟩ = .ok .nx ⟨y6, z.s⟩ := (forL_cons (z := ⟨y3, z.s⟩) u4 w4).trans f5
  have f3 : forL detT detB [tp4 2 0 1 1, tp4 0 2 1 (-1), tp4 1 0 2 (-1), tp4 2 1 0 (-1)] ⟨y2, z.s⟩ = .ok .nx ⟨y6, z.s⟩ := (forL_cons (z := ⟨y2, z.s⟩) u3 w3).trans f4
  have f2 : forL detT detB [tp4 1 2 0 1, tp4 2 0 1 1, tp4 0 2 1 (-1), tp4 1 0 2 (-1), tp4 2 1 0 (-1)] ⟨y1, z.s⟩ = .ok .nx ⟨y6, z.s⟩ := (forL_cons (z := ⟨y1, z.s⟩) u2 w2).trans f3
  exact (forL_cons (z := z) u1 w1).trans f2
theorem b24 {z : Z} {a b c d e f g h i : Rat} (ha : Dr a) (hb : Dr b) (hc : Dr c) (hd : Dr d) (he : Dr e) (hf : Dr f) (hg : Dr g) (hh : Dr h) (hi : Dr i)
    (h11 : z.ρ[11]? = some (.d (.lst [.lst [Qd a, Qd b, Qd c], .lst [Qd d, Qd e, Qd f], .lst [Qd g, Qd h, Qd i]]))) (h6 : z.ρ[6]? = some (.d (Qd (a * (e * i - f * h) - b * (d * i - f * g) + c * (d * h - e * g))))) : mb_24 z = .ok .nx z := by
  have T := three_eq z.s a b c d e f g h i ha hb hc hd he hf hg hh hi
  have v := var_at h11
  have c0 : ev2 ixD (evVar 11) (evC (.int 0)) z = .ok (.lst [Qd a, Qd b, Qd c]) z := ix_ok v rfl rfl
  have c1 : ev2 ixD (evVar 11) (evC (.int 1)) z = .ok (.lst [Qd d, Qd e, Qd f]) z := ix_ok v rfl rfl
  have c2 : ev2 ixD (evVar 11) (evC (.int 2)) z = .ok (.lst [Qd g, Qd h, Qd i]) z := ix_ok v rfl rfl
  have k : evCall 3 f_three_by_three [] (evCons (ev2 ixD (evVar 11) (evC (.int 0))) (evCons (ev2 ixD (evVar 11) (evC (.int 1))) (evCons (ev2 ixD (evVar 11) (evC (.int 2))) (evNil)))) z = .ok (Qd (a * (e * i - f * h) - b * (d * i - f * g) + c * (d * h - e * g))) z := by
    unfold evCall
    rw [cons_ok c0 (cons_ok c1 (cons_ok (fl := evNil) c2 rfl))]
    simp [T]
  exact check (ne_false k (var_at h6) (neQ _))
end K01

set_option Elab.async false
set_option linter.all false
set_option maxRecDepth 100000
set_option autoImplicit false
set_option exponentiation.threshold 300
namespace K01
open DL PySem PySem.Spec PyProof.Rows L2 TL PySem.StrLaws
abbrev ρ0 : List SV := [.un, .d .dice, .un, .un, .un, .un, .un, .un, .un, .un, .un, .un, .un, .un, .un, .un, .un, .un, .un, .un, .un, .un, .un, .un, .un]
theorem body_eq (s : S) (h : SOk 900000000 s) : ∃ ρ s', m_body ⟨ρ0, s⟩ = .ok .nx ⟨ρ, s'⟩ ∧ ρ.length = 25 ∧ ρ[24]? = some .un := by
  obtain ⟨t, bb, s1, E0, hb, smb, _, o1⟩ := b0 (z := ⟨ρ0, s⟩) (n := 5000) rfl (h.mono (by decide))
  have E0 : mb_0 ⟨ρ0, s⟩ = .ok .nx ⟨[.un, .d .dice, .d (.int t), .d (.int bb), .un, .un, .un, .un, .un, .un, .un, .un, .un, .un, .un, .un, .un, .un, .un, .un, .un, .un, .un, .un, .un], s1⟩ := E0
  have E1 := b1 (z := ⟨[.un, .d .dice, .d (.int t), .d (.int bb), .un, .un, .un, .un, .un, .un, .un, .un, .un, .un, .un, .un, .un, .un, .un, .un, .un, .un, .un, .un, .un], s1⟩) (t := t) (b := bb) rfl rfl hb smb
  obtain ⟨a, b, s2, E2, da, db, o2⟩ := b2 (z := ⟨[.un, .d .dice, .d (.int t), .d (.int bb), .un, .un, .un, .un, .un, .un, .un, .un, .un, .un, .un, .un, .un, .un, .un, .un, .un, .un, .un, .un, .un], s1⟩) (n := 4000) rfl (o1.mono (by decide))
  have E3 := b3 (z := ⟨[.un, .d .dice, .d (.int t), .d (.int bb), .un, .un, .un, .un, .un, .un, .un, .un, .un, .un, .un, .un, .un, .un, .d (Qd a), .d (Qd b), .un, .un, .un, .un, .un], s2⟩) (a := a) (b := b) rfl rfl da db
  have E4 := b4 (z := ⟨[.un, .d .dice, .d (.int t), .d (.int bb), .un, .un, .un, .un, .un, .un, .un, .un, .un, .un, .un, .un, .un, .un, .d (Qd a), .d (Qd b), .un, .un, .un, .un, .un], s2⟩) (a := a) (b := b) rfl rfl da db
  have E5 := b5 (z := ⟨[.un, .d .dice, .d (.int t), .d (.int bb), .un, .un, .un, .un, .un, .un, .un, .un, .un, .un, .un, .un, .un, .un, .d (Qd a), .d (Qd b), .un, .un, .un, .un, .un], s2⟩) (a := a) (b := b) rfl rfl da db
  have E6 := b6 (z := ⟨[.un, .d .dice, .d (.int t), .d (.int bb), .d (dueD a b), .un, .un, .un, .un, .un, .un, .un, .un, .un, .un, .un, .un, .un, .d (Qd a), .d (Qd b), .un, .un, .un, .un, .un], s2⟩) (a := a) (b := b) rfl rfl da db
  have E7 := b7 (z := ⟨[.un, .d .dice, .d (.int t), .d (.int bb), .d (dueD a b), .d (.int (a.num * b.den - b.num * a.den)), .un, .un, .un, .un, .un, .un, .un, .un, .un, .un, .un, .un, .d (Qd a), .d (Qd b), .un, .un, .un, .un, .un], s2⟩) (a := a) (b := b) rfl rfl rfl da db
  have E8 := b8 (z := ⟨[.un, .d .dice, .d (.int t), .d (.int bb), .d (dueD a b), .d (.int (a.num * b.den - b.num * a.den)), .un, .un, .un, .un, .un, .un, .un, .un, .un, .un, .un, .un, .d (Qd a), .d (Qd b), .un, .un, .un, .un, .un], s2⟩) (a := a) (b := b) rfl rfl rfl da db
  have E9 := b9 (z := ⟨[.un, .d .dice, .d (.int t), .d (.int bb), .d (dueD a b), .d (.int (a.num * b.den - b.num * a.den)), .un, .un, .un, .un, .un, .un, .un, .un, .un, .un, .un, .un, .d (Qd a), .d (Qd b), .un, .un, .un, .un, .un], s2⟩) (a := a) rfl
  obtain ⟨rs, s3, E10, hr, hn, o3⟩ := b10 (z := ⟨[.un, .d .dice, .d (.int t), .d (.int bb), .d (dueD a b), .d (.int (a.num * b.den - b.num * a.den)), .un, .un, .un, .un, .un, .un, .un, .un, .un, .un, .un, .un, .d (Qd a), .d (Qd b), .un, .un, .un, .un, .un], s2⟩) (n := 3000) rfl rfl (o2.mono (by decide))
  obtain ⟨x, E11, hx⟩ := b11 (z := ⟨[.un, .d .dice, .d (.int t), .d (.int bb), .d (dueD a b), .d (.int (a.num * b.den - b.num * a.den)), .d (Qd 0), .un, .un, .un, .un, .un, .un, .un, .un, .un, .un, .un, .d (Qd a), .d (Qd b), .d (.lst (rs.map Qd)), .un, .un, .un, .un], s3⟩) (rs := rs) rfl rfl rfl hr hn
  have kx : keepD x = x := by
    rcases hx with rfl | ⟨r, rfl⟩ <;> rfl
  have E12 := b12 (z := ⟨[.un, .d .dice, .d (.int t), .d (.int bb), .d (dueD a b), .d (.int (a.num * b.den - b.num * a.den)), .d (Qd (rs.foldl (· + ·) 0)), x, .un, .un, .un, .un, .un, .un, .un, .un, .un, .un, .d (Qd a), .d (Qd b), .d (.lst (rs.map Qd)), .un, .un, .un, .un], s3⟩) (rs := rs) rfl rfl rfl kx rfl hr hn
  have E13 := b13 (z := ⟨[.un, .d .dice, .d (.int t), .d (.int bb), .d (dueD a b), .d (.int (a.num * b.den - b.num * a.den)), .d (Qd (rs.foldl (· + ·) 0)), x, .own ((best ltR rs).map Qd), .un, .un, .un, .un, .un, .un, .un, .un, .un, .d (Qd a), .d (Qd b), .d (.lst (rs.map Qd)), .un, .un, .un, .un], s3⟩) (rs := rs) rfl rfl rfl kx rfl hr hn
  have E14 := b14 (z := ⟨[.un, .d .dice, .d (.int t), .d (.int bb), .d (dueD a b), .d (.int (a.num * b.den - b.num * a.den)), .d (Qd (rs.foldl (· + ·) 0)), x, .own ((best ltR rs).map Qd), .own ((best gtR rs).map Qd), .un, .un, .un, .un, .un, .un, .un, .un, .d (Qd a), .d (Qd b), .d (.lst (rs.map Qd)), .un, .un, .un, .un], s3⟩) (rs := rs) rfl rfl rfl rfl rfl hr hn
  have E15 := b15 (z := ⟨[.un, .d .dice, .d (.int t), .d (.int bb), .d (dueD a b), .d (.int (a.num * b.den - b.num * a.den)), .d (Qd (rs.foldl (· + ·) 0)), x, .d (.lst ((best ltR rs).map Qd)), .d (.lst ((best gtR rs).map Qd)), .un, .un, .un, .un, .un, .un, .un, .un, .d (Qd a), .d (Qd b), .d (.lst (rs.map Qd)), .un, .un, .un, .un], s3⟩) (a := a) rfl da
  have E16 := b16 (z := ⟨[.un, .d .dice, .d (.int t), .d (.int bb), .d (dueD a b), .d (.int (a.num * b.den - b.num * a.den)), .d (Qd (rs.foldl (· + ·) 0)), x, .d (.lst ((best ltR rs).map Qd)), .d (.lst ((best gtR rs).map Qd)), .d (.str (tx a)), .un, .un, .un, .un, .un, .un, .un, .d (Qd a), .d (Qd b), .d (.lst (rs.map Qd)), .un, .un, .un, .un], s3⟩) (a := a) rfl rfl da
  have E17 := b17 (z := ⟨[.un, .d .dice, .d (.int t), .d (.int bb), .d (dueD a b), .d (.int (a.num * b.den - b.num * a.den)), .d (Qd (rs.foldl (· + ·) 0)), x, .d (.lst ((best ltR rs).map Qd)), .d (.lst ((best gtR rs).map Qd)), .d (.str (tx a)), .un, .un, .un, .un, .un, .un, .un, .d (Qd a), .d (Qd b), .d (.lst (rs.map Qd)), .un, .un, .un, .un], s3⟩) (a := a) rfl rfl rfl da
  obtain ⟨y, s4, E18, hy, o4⟩ := b18 (z := ⟨[.un, .d .dice, .d (.int t), .d (.int bb), .d (dueD a b), .d (.int (a.num * b.den - b.num * a.den)), .d (Qd (rs.foldl (· + ·) 0)), x, .d (.lst ((best ltR rs).map Qd)), .d (.lst ((best gtR rs).map Qd)), .d (.str (tx a)), .un, .un, .un, .un, .un, .un, .un, .d (Qd a), .d (Qd b), .d (.lst (rs.map Qd)), .un, .un, .un, .un], s3⟩) (n := 2000) rfl rfl (o3.mono (by decide))
  have E19 := b19 (z := ⟨[.un, .d .dice, .d (.int t), .d (.int bb), .d (dueD a b), .d (.int (a.num * b.den - b.num * a.den)), .d (Qd (rs.foldl (· + ·) 0)), x, .d (.lst ((best ltR rs).map Qd)), .d (.lst ((best gtR rs).map Qd)), .d (.str (tx a)), .un, .un, .un, .un, .un, .un, .d (.str y), .d (Qd a), .d (Qd b), .d (.lst (rs.map Qd)), .un, .un, .un, .un], s4⟩) (x := y) rfl hy
  have E20 := b20 (z := ⟨[.un, .d .dice, .d (.int t), .d (.int bb), .d (rdD y), .d (.int (a.num * b.den - b.num * a.den)), .d (Qd (rs.foldl (· + ·) 0)), x, .d (.lst ((best ltR rs).map Qd)), .d (.lst ((best gtR rs).map Qd)), .d (.str (tx a)), .un, .un, .un, .un, .un, .un, .d (.str y), .d (Qd a), .d (Qd b), .d (.lst (rs.map Qd)), .un, .un, .un, .un], s4⟩) (x := y) rfl rfl hy
  obtain ⟨r1, r2, r3, s5, E21, ⟨p1, p2, p3, rfl, h1, h2, h3⟩, ⟨p4, p5, p6, rfl, h4, h5, h6⟩, ⟨p7, p8, p9, rfl, h7, h8, h9⟩, o5⟩ := b21 (z := ⟨[.un, .d .dice, .d (.int t), .d (.int bb), .d (rdD y), .d (.int (a.num * b.den - b.num * a.den)), .d (Qd (rs.foldl (· + ·) 0)), x, .d (.lst ((best ltR rs).map Qd)), .d (.lst ((best gtR rs).map Qd)), .d (.str (tx a)), .un, .un, .un, .un, .un, .un, .d (.str y), .d (Qd a), .d (Qd b), .d (.lst (rs.map Qd)), .un, .un, .un, .un], s4⟩) (n := 1000) rfl rfl rfl (o4.mono (by decide))
  have E22 := b22 ⟨[.un, .d .dice, .d (.int t), .d (.int bb), .d (rdD y), .d (.int (a.num * b.den - b.num * a.den)), .d (Qd (rs.foldl (· + ·) 0)), x, .d (.lst ((best ltR rs).map Qd)), .d (.lst ((best gtR rs).map Qd)), .d (.str (tx a)), .own [.lst [Qd p1, Qd p2, Qd p3], .lst [Qd p4, Qd p5, Qd p6], .lst [Qd p7, Qd p8, Qd p9]], .un, .un, .un, .un, .un, .d (.str y), .d (Qd a), .d (Qd b), .d (.lst (rs.map Qd)), .un, .un, .un, .un], s5⟩
  obtain ⟨ρ', E23, ⟨l, w, _, u⟩, k⟩ := b23 (z := ⟨[.un, .d .dice, .d (.int t), .d (.int bb), .d (rdD y), .d (.int (a.num * b.den - b.num * a.den)), .d (Qd 0), x, .d (.lst ((best ltR rs).map Qd)), .d (.lst ((best gtR rs).map Qd)), .d (.str (tx a)), .own [.lst [Qd p1, Qd p2, Qd p3], .lst [Qd p4, Qd p5, Qd p6], .lst [Qd p7, Qd p8, Qd p9]], .un, .un, .un, .un, .un, .d (.str y), .d (Qd a), .d (Qd b), .d (.lst (rs.map Qd)), .un, .un, .un, .un], s5⟩) h1 h2 h3 h4 h5 h6 h7 h8 h9 ⟨rfl, rfl, .inl rfl, rfl⟩
  have E24 := b24 (z := ⟨ρ', s5⟩) h1 h2 h3 h4 h5 h6 h7 h8 h9 k w
  refine ⟨ρ', s5, ?_, l, u⟩
  exact (then_nx E0).trans ((then_nx E1).trans ((then_nx E2).trans ((then_nx E3).trans ((then_nx E4).trans ((then_nx E5).trans ((then_nx E6).trans ((then_nx E7).trans ((then_nx E8).trans ((then_nx E9).trans ((then_nx E10).trans ((then_nx E11).trans
    ((then_nx E12).trans ((then_nx E13).trans ((then_nx E14).trans ((then_nx E15).trans ((then_nx E16).trans ((then_nx E17).trans ((then_nx E18).trans ((then_nx E19).trans ((then_nx E20).trans ((then_nx E21).trans ((then_nx E22).trans ((then_nx E23).trans E24)))))))))))))))))))))))
theorem law_math (ks : List Int) (s : S) (h : PIk ks) : ∃ (a b c : Int) (z1 z2 z3 : Z), m_it ⟨.d (.scr (ks.map D.int)) :: List.replicate 24 .un, s⟩ = .ok (.lst [.lst [.int a, .int b, .int c]]) z1 ∧ m_body ⟨(List.replicate 25 .un).set 1 (.d .dice), (a, b, c)⟩ = .ok .nx z2 ∧ m_rest z2 = .ok (.rt (.bl true)) z3 := by
  obtain ⟨a, b, c, z1, e1, o⟩ := it_eq ks s h
  obtain ⟨ρ, s', e2, l, u⟩ := body_eq (a, b, c) o
  obtain ⟨z3, e3⟩ := rest_eq ρ s' l u
  exact ⟨a, b, c, z1, ⟨ρ, s'⟩, z3, e1, e2, e3⟩
end K01

set_option Elab.async false
set_option linter.all false
set_option maxRecDepth 100000
set_option autoImplicit false
set_option maxHeartbeats 0
namespace K01
open DL PySem PySem.Spec PyProof.Rows L2
theorem facts_mk {K : PySem.W.Frag} {h : Heap} {mg : Str → Option Value} {c_f_read p_f_read c_f_law p_f_law : Addr} (X : K.In h) (G : h.Ns mainGlobals mg)
    {C_NumberError : Addr} {bm_NumberError : List Value} {B_NumberError nw_NumberError it_NumberError : String}
    {ff_number : Addr} {odf_number anf_number : Option Addr} {slf_number : Array (Option Value)} {ocf_number kVf_number dcf_number pmf_number cdf_number ctf_number : Value}
    {Tf_number : Addr} {tof_number : Value} {tdf_number : Option Addr} {tsf_number : Array (Option Value)} {tnf_number : Nat} {tkf_number0 : Tok}
    {ff_plus : Addr} {odf_plus anf_plus : Option Addr} {slf_plus : Array (Option Value)} {ocf_plus kVf_plus dcf_plus pmf_plus cdf_plus ctf_plus : Value}
    {ff_minus : Addr} {odf_minus anf_minus : Option Addr} {slf_minus : Array (Option Value)} {ocf_minus kVf_minus dcf_minus pmf_minus cdf_minus ctf_minus : Value}
    {ff_times : Addr} {odf_times anf_times : Option Addr} {slf_times : Array (Option Value)} {ocf_times kVf_times dcf_times pmf_times cdf_times ctf_times : Value}
    {ff_over : Addr} {odf_over anf_over : Option Addr} {slf_over : Array (Option Value)} {ocf_over kVf_over dcf_over pmf_over cdf_over ctf_over : Value}
    {ff_sign_of : Addr} {odf_sign_of anf_sign_of : Option Addr} {slf_sign_of : Array (Option Value)} {ocf_sign_of kVf_sign_of dcf_sign_of pmf_sign_of cdf_sign_of ctf_sign_of : Value}
    {ff_compared : Addr} {odf_compared anf_compared : Option Addr} {slf_compared : Array (Option Value)} {ocf_compared kVf_compared dcf_compared pmf_compared cdf_compared ctf_compared : Value}
    {ff_least_of : Addr} {odf_least_of anf_least_of : Option Addr} {slf_least_of : Array (Option Value)} {ocf_least_of kVf_least_of dcf_least_of pmf_least_of cdf_least_of ctf_least_of : Value}
    {ff_greatest_of : Addr} {odf_greatest_of anf_greatest_of : Option Addr} {slf_greatest_of : Array (Option Value)} {ocf_greatest_of kVf_greatest_of dcf_greatest_of pmf_greatest_of cdf_greatest_of ctf_greatest_of : Value}
    {ff_total : Addr} {odf_total anf_total : Option Addr} {slf_total : Array (Option Value)} {ocf_total kVf_total dcf_total pmf_total cdf_total ctf_total : Value}
    {ff_shown : Addr} {odf_shown anf_shown : Option Addr} {slf_shown : Array (Option Value)} {ocf_shown kVf_shown dcf_shown pmf_shown cdf_shown ctf_shown : Value}
    {ff_read : Addr} {odf_read anf_read : Option Addr} {slf_read : Array (Option Value)} {ocf_read kVf_read dcf_read pmf_read ctf_read : Value}
    {ff_whole_below : Addr} {odf_whole_below anf_whole_below : Option Addr} {slf_whole_below : Array (Option Value)} {ocf_whole_below kVf_whole_below dcf_whole_below pmf_whole_below cdf_whole_below ctf_whole_below : Value}
    {ff_three_by_three : Addr} {odf_three_by_three anf_three_by_three : Option Addr} {slf_three_by_three : Array (Option Value)} {ocf_three_by_three kVf_three_by_three dcf_three_by_three pmf_three_by_three cdf_three_by_three ctf_three_by_three : Value}
    {ff_law_dice : Addr} {odf_law_dice anf_law_dice : Option Addr} {slf_law_dice : Array (Option Value)} {ocf_law_dice kVf_law_dice dcf_law_dice pmf_law_dice cdf_law_dice ctf_law_dice : Value}
    {ff_law_roll : Addr} {odf_law_roll anf_law_roll : Option Addr} {slf_law_roll : Array (Option Value)} {ocf_law_roll kVf_law_roll dcf_law_roll pmf_law_roll cdf_law_roll ctf_law_roll : Value}
    {ff_law_rounds : Addr} {odf_law_rounds anf_law_rounds : Option Addr} {slf_law_rounds : Array (Option Value)} {ocf_law_rounds kVf_law_rounds dcf_law_rounds pmf_law_rounds cdf_law_rounds ctf_law_rounds : Value}
    {ff_law_told : Addr} {odf_law_told anf_law_told : Option Addr} {slf_law_told : Array (Option Value)} {ocf_law_told kVf_law_told dcf_law_told pmf_law_told cdf_law_told ctf_law_told : Value}
    {ff_law_least : Addr} {odf_law_least anf_law_least : Option Addr} {slf_law_least : Array (Option Value)} {ocf_law_least kVf_law_least dcf_law_least pmf_law_least cdf_law_least ctf_law_least : Value}
    {ff_law_plus : Addr} {odf_law_plus anf_law_plus : Option Addr} {slf_law_plus : Array (Option Value)} {ocf_law_plus kVf_law_plus dcf_law_plus pmf_law_plus cdf_law_plus ctf_law_plus : Value}
    {ff_law_times : Addr} {odf_law_times anf_law_times : Option Addr} {slf_law_times : Array (Option Value)} {ocf_law_times kVf_law_times dcf_law_times pmf_law_times cdf_law_times ctf_law_times : Value}
    {ff_law_less : Addr} {odf_law_less anf_law_less : Option Addr} {slf_law_less : Array (Option Value)} {ocf_law_less kVf_law_less dcf_law_less pmf_law_less cdf_law_less ctf_law_less : Value}
    {ff_law_drawn : Addr} {odf_law_drawn anf_law_drawn : Option Addr} {slf_law_drawn : Array (Option Value)} {ocf_law_drawn kVf_law_drawn dcf_law_drawn pmf_law_drawn cdf_law_drawn ctf_law_drawn : Value}
    {ff_law_read : Addr} {odf_law_read anf_law_read : Option Addr} {slf_law_read : Array (Option Value)} {ocf_law_read kVf_law_read dcf_law_read pmf_law_read cdf_law_read ctf_law_read : Value}
    {ff_law : Addr} {odf_law anf_law : Option Addr} {slf_law : Array (Option Value)} {ocf_law kVf_law dcf_law pmf_law ctf_law : Value}
    (b_abs : PySem.W.nsIn K mainGlobals (PySem.Str.ofString "abs") = some none)
    (b_any : PySem.W.nsIn K mainGlobals (PySem.Str.ofString "any") = some none)
    (b_enumerate : PySem.W.nsIn K mainGlobals (PySem.Str.ofString "enumerate") = some none)
    (b_int : PySem.W.nsIn K mainGlobals (PySem.Str.ofString "int") = some none)
    (b_len : PySem.W.nsIn K mainGlobals (PySem.Str.ofString "len") = some none)
    (b_range : PySem.W.nsIn K mainGlobals (PySem.Str.ofString "range") = some none)
    (b_str : PySem.W.nsIn K mainGlobals (PySem.Str.ofString "str") = some none)
    (xF_NumberError : ExcBaseFacts B_NumberError nw_NumberError it_NumberError bm_NumberError)
    (x1_NumberError : PySem.W.nsIn K mainGlobals (PySem.Str.ofString "NumberError") = some (some (.ref C_NumberError)))
    (x2_NumberError : PySem.W.excIn K C_NumberError bm_NumberError nw_NumberError = true)
    (x3_NumberError : PySem.W.keepIn K (.ref C_NumberError) = true)
    (x4_NumberError : PySem.W.subIn K (.ref C_NumberError) (.type "BaseException") = some true)
    (x5_NumberError : PySem.W.typeIn K (.ref C_NumberError) = some (.type "type"))
    (y1 : PySem.W.isClsIn K C_NumberError = true)
    (y2 : PySem.W.subIn K (.ref C_NumberError) (.ref C_NumberError) = some true)
    (af_number : PySem.W.nsIn K mainGlobals (PySem.Str.ofString "number") = some (some (.ref ff_number)))
    (lf_number : K.lookup ff_number = some ⟨ocf_number, odf_number, .func (PySem.W.fnOf (PySem.Str.ofString "number") (PySem.Str.ofString "number") (defArgs s_f_number) (defBody s_f_number) (defScope s_f_number) (.ref Tf_number) kVf_number dcf_number pmf_number anf_number cdf_number ctf_number), slf_number⟩)
    (cf_number : PySem.W.codeIn K cdf_number (PySem.Str.ofString "number") = true)
    (kf_number : PySem.W.keepIn K (.ref ff_number) = true)
    (tf_number : K.lookup Tf_number = some ⟨tof_number, tdf_number, .seq #[.int 1 tkf_number0] tnf_number, tsf_number⟩)
    (af_plus : PySem.W.nsIn K mainGlobals (PySem.Str.ofString "plus") = some (some (.ref ff_plus)))
    (lf_plus : K.lookup ff_plus = some ⟨ocf_plus, odf_plus, .func (PySem.W.fnOf (PySem.Str.ofString "plus") (PySem.Str.ofString "plus") (defArgs s_f_plus) (defBody s_f_plus) (defScope s_f_plus) .none kVf_plus dcf_plus pmf_plus anf_plus cdf_plus ctf_plus), slf_plus⟩)
    (cf_plus : PySem.W.codeIn K cdf_plus (PySem.Str.ofString "plus") = true)
    (kf_plus : PySem.W.keepIn K (.ref ff_plus) = true)
    (af_minus : PySem.W.nsIn K mainGlobals (PySem.Str.ofString "minus") = some (some (.ref ff_minus)))
    (lf_minus : K.lookup ff_minus = some ⟨ocf_minus, odf_minus, .func (PySem.W.fnOf (PySem.Str.ofString "minus") (PySem.Str.ofString "minus") (defArgs s_f_minus) (defBody s_f_minus) (defScope s_f_minus) .none kVf_minus dcf_minus pmf_minus anf_minus cdf_minus ctf_minus), slf_minus⟩)
    (cf_minus : PySem.W.codeIn K cdf_minus (PySem.Str.ofString "minus") = true)
    (kf_minus : PySem.W.keepIn K (.ref ff_minus) = true)
    (af_times : PySem.W.nsIn K mainGlobals (PySem.Str.ofString "times") = some (some (.ref ff_times)))
    (lf_times : K.lookup ff_times = some ⟨ocf_times, odf_times, .func (PySem.W.fnOf (PySem.Str.ofString "times") (PySem.Str.ofString "times") (defArgs s_f_times) (defBody s_f_times) (defScope s_f_times) .none kVf_times dcf_times pmf_times anf_times cdf_times ctf_times), slf_times⟩)
    (cf_times : PySem.W.codeIn K cdf_times (PySem.Str.ofString "times") = true)
    (kf_times : PySem.W.keepIn K (.ref ff_times) = true)
    (af_over : PySem.W.nsIn K mainGlobals (PySem.Str.ofString "over") = some (some (.ref ff_over)))
    (lf_over : K.lookup ff_over = some ⟨ocf_over, odf_over, .func (PySem.W.fnOf (PySem.Str.ofString "over") (PySem.Str.ofString "over") (defArgs s_f_over) (defBody s_f_over) (defScope s_f_over) .none kVf_over dcf_over pmf_over anf_over cdf_over ctf_over), slf_over⟩)
    (cf_over : PySem.W.codeIn K cdf_over (PySem.Str.ofString "over") = true)
    (kf_over : PySem.W.keepIn K (.ref ff_over) = true)
    (af_sign_of : PySem.W.nsIn K mainGlobals (PySem.Str.ofString "sign_of") = some (some (.ref ff_sign_of)))
    (lf_sign_of : K.lookup ff_sign_of = some ⟨ocf_sign_of, odf_sign_of, .func (PySem.W.fnOf (PySem.Str.ofString "sign_of") (PySem.Str.ofString "sign_of") (defArgs s_f_sign_of) (defBody s_f_sign_of) (defScope s_f_sign_of) .none kVf_sign_of dcf_sign_of pmf_sign_of anf_sign_of cdf_sign_of ctf_sign_of), slf_sign_of⟩)
    (cf_sign_of : PySem.W.codeIn K cdf_sign_of (PySem.Str.ofString "sign_of") = true)
    (kf_sign_of : PySem.W.keepIn K (.ref ff_sign_of) = true)
    (af_compared : PySem.W.nsIn K mainGlobals (PySem.Str.ofString "compared") = some (some (.ref ff_compared)))
    (lf_compared : K.lookup ff_compared = some ⟨ocf_compared, odf_compared, .func (PySem.W.fnOf (PySem.Str.ofString "compared") (PySem.Str.ofString "compared") (defArgs s_f_compared) (defBody s_f_compared) (defScope s_f_compared) .none kVf_compared dcf_compared pmf_compared anf_compared cdf_compared ctf_compared), slf_compared⟩)
    (cf_compared : PySem.W.codeIn K cdf_compared (PySem.Str.ofString "compared") = true)
    (kf_compared : PySem.W.keepIn K (.ref ff_compared) = true)
    (af_least_of : PySem.W.nsIn K mainGlobals (PySem.Str.ofString "least_of") = some (some (.ref ff_least_of)))
    (lf_least_of : K.lookup ff_least_of = some ⟨ocf_least_of, odf_least_of, .func (PySem.W.fnOf (PySem.Str.ofString "least_of") (PySem.Str.ofString "least_of") (defArgs s_f_least_of) (defBody s_f_least_of) (defScope s_f_least_of) .none kVf_least_of dcf_least_of pmf_least_of anf_least_of cdf_least_of ctf_least_of), slf_least_of⟩)
    (cf_least_of : PySem.W.codeIn K cdf_least_of (PySem.Str.ofString "least_of") = true)
    (kf_least_of : PySem.W.keepIn K (.ref ff_least_of) = true)
    (af_greatest_of : PySem.W.nsIn K mainGlobals (PySem.Str.ofString "greatest_of") = some (some (.ref ff_greatest_of)))
    (lf_greatest_of : K.lookup ff_greatest_of = some ⟨ocf_greatest_of, odf_greatest_of, .func (PySem.W.fnOf (PySem.Str.ofString "greatest_of") (PySem.Str.ofString "greatest_of") (defArgs s_f_greatest_of) (defBody s_f_greatest_of) (defScope s_f_greatest_of) .none kVf_greatest_of dcf_greatest_of pmf_greatest_of anf_greatest_of cdf_greatest_of ctf_greatest_of), slf_greatest_of⟩)
    (cf_greatest_of : PySem.W.codeIn K cdf_greatest_of (PySem.Str.ofString "greatest_of") = true)
    (kf_greatest_of : PySem.W.keepIn K (.ref ff_greatest_of) = true)
    (af_total : PySem.W.nsIn K mainGlobals (PySem.Str.ofString "total") = some (some (.ref ff_total)))
    (lf_total : K.lookup ff_total = some ⟨ocf_total, odf_total, .func (PySem.W.fnOf (PySem.Str.ofString "total") (PySem.Str.ofString "total") (defArgs s_f_total) (defBody s_f_total) (defScope s_f_total) .none kVf_total dcf_total pmf_total anf_total cdf_total ctf_total), slf_total⟩)
    (cf_total : PySem.W.codeIn K cdf_total (PySem.Str.ofString "total") = true)
    (kf_total : PySem.W.keepIn K (.ref ff_total) = true)
    (af_shown : PySem.W.nsIn K mainGlobals (PySem.Str.ofString "shown") = some (some (.ref ff_shown)))
    (lf_shown : K.lookup ff_shown = some ⟨ocf_shown, odf_shown, .func (PySem.W.fnOf (PySem.Str.ofString "shown") (PySem.Str.ofString "shown") (defArgs s_f_shown) (defBody s_f_shown) (defScope s_f_shown) .none kVf_shown dcf_shown pmf_shown anf_shown cdf_shown ctf_shown), slf_shown⟩)
    (cf_shown : PySem.W.codeIn K cdf_shown (PySem.Str.ofString "shown") = true)
    (kf_shown : PySem.W.keepIn K (.ref ff_shown) = true)
    (af_read : PySem.W.nsIn K mainGlobals (PySem.Str.ofString "read") = some (some (.ref ff_read)))
    (lf_read : K.lookup ff_read = some ⟨ocf_read, odf_read, .func (PySem.W.fnOf (PySem.Str.ofString "read") (PySem.Str.ofString "read") (defArgs s_f_read) (defBody s_f_read) (defScope s_f_read) .none kVf_read dcf_read pmf_read anf_read (.ref c_f_read) ctf_read), slf_read⟩)
    (cf_read : PySem.W.codeIn K (.ref c_f_read) (PySem.Str.ofString "read") = true)
    (kf_read : PySem.W.keepIn K (.ref ff_read) = true)
    (af_whole_below : PySem.W.nsIn K mainGlobals (PySem.Str.ofString "whole_below") = some (some (.ref ff_whole_below)))
    (lf_whole_below : K.lookup ff_whole_below = some ⟨ocf_whole_below, odf_whole_below, .func (PySem.W.fnOf (PySem.Str.ofString "whole_below") (PySem.Str.ofString "whole_below") (defArgs s_f_whole_below) (defBody s_f_whole_below) (defScope s_f_whole_below) .none kVf_whole_below dcf_whole_below pmf_whole_below anf_whole_below cdf_whole_below ctf_whole_below), slf_whole_below⟩)
    (cf_whole_below : PySem.W.codeIn K cdf_whole_below (PySem.Str.ofString "whole_below") = true)
    (kf_whole_below : PySem.W.keepIn K (.ref ff_whole_below) = true)
    (af_three_by_three : PySem.W.nsIn K mainGlobals (PySem.Str.ofString "three_by_three") = some (some (.ref ff_three_by_three)))
    (lf_three_by_three : K.lookup ff_three_by_three = some ⟨ocf_three_by_three, odf_three_by_three, .func (PySem.W.fnOf (PySem.Str.ofString "three_by_three") (PySem.Str.ofString "three_by_three") (defArgs s_f_three_by_three) (defBody s_f_three_by_three) (defScope s_f_three_by_three) .none kVf_three_by_three dcf_three_by_three pmf_three_by_three anf_three_by_three cdf_three_by_three ctf_three_by_three), slf_three_by_three⟩)
    (cf_three_by_three : PySem.W.codeIn K cdf_three_by_three (PySem.Str.ofString "three_by_three") = true)
    (kf_three_by_three : PySem.W.keepIn K (.ref ff_three_by_three) = true)
    (af_law_dice : PySem.W.nsIn K mainGlobals (PySem.Str.ofString "_law_dice") = some (some (.ref ff_law_dice)))
    (lf_law_dice : K.lookup ff_law_dice = some ⟨ocf_law_dice, odf_law_dice, .func (PySem.W.fnOf (PySem.Str.ofString "_law_dice") (PySem.Str.ofString "_law_dice") (defArgs s_f_law_dice) (defBody s_f_law_dice) (defScope s_f_law_dice) .none kVf_law_dice dcf_law_dice pmf_law_dice anf_law_dice cdf_law_dice ctf_law_dice), slf_law_dice⟩)
    (cf_law_dice : PySem.W.codeIn K cdf_law_dice (PySem.Str.ofString "_law_dice") = true)
    (kf_law_dice : PySem.W.keepIn K (.ref ff_law_dice) = true)
    (af_law_roll : PySem.W.nsIn K mainGlobals (PySem.Str.ofString "_law_roll") = some (some (.ref ff_law_roll)))
    (lf_law_roll : K.lookup ff_law_roll = some ⟨ocf_law_roll, odf_law_roll, .func (PySem.W.fnOf (PySem.Str.ofString "_law_roll") (PySem.Str.ofString "_law_roll") (defArgs s_f_law_roll) (defBody s_f_law_roll) (defScope s_f_law_roll) .none kVf_law_roll dcf_law_roll pmf_law_roll anf_law_roll cdf_law_roll ctf_law_roll), slf_law_roll⟩)
    (cf_law_roll : PySem.W.codeIn K cdf_law_roll (PySem.Str.ofString "_law_roll") = true)
    (kf_law_roll : PySem.W.keepIn K (.ref ff_law_roll) = true)
    (af_law_rounds : PySem.W.nsIn K mainGlobals (PySem.Str.ofString "_law_rounds") = some (some (.ref ff_law_rounds)))
    (lf_law_rounds : K.lookup ff_law_rounds = some ⟨ocf_law_rounds, odf_law_rounds, .func (PySem.W.fnOf (PySem.Str.ofString "_law_rounds") (PySem.Str.ofString "_law_rounds") (defArgs s_f_law_rounds) (defBody s_f_law_rounds) (defScope s_f_law_rounds) .none kVf_law_rounds dcf_law_rounds pmf_law_rounds anf_law_rounds cdf_law_rounds ctf_law_rounds), slf_law_rounds⟩)
    (cf_law_rounds : PySem.W.codeIn K cdf_law_rounds (PySem.Str.ofString "_law_rounds") = true)
    (kf_law_rounds : PySem.W.keepIn K (.ref ff_law_rounds) = true)
    (af_law_told : PySem.W.nsIn K mainGlobals (PySem.Str.ofString "_law_told") = some (some (.ref ff_law_told)))
    (lf_law_told : K.lookup ff_law_told = some ⟨ocf_law_told, odf_law_told, .func (PySem.W.fnOf (PySem.Str.ofString "_law_told") (PySem.Str.ofString "_law_told") (defArgs s_f_law_told) (defBody s_f_law_told) (defScope s_f_law_told) .none kVf_law_told dcf_law_told pmf_law_told anf_law_told cdf_law_told ctf_law_told), slf_law_told⟩)
    (cf_law_told : PySem.W.codeIn K cdf_law_told (PySem.Str.ofString "_law_told") = true)
    (kf_law_told : PySem.W.keepIn K (.ref ff_law_told) = true)
    (af_law_least : PySem.W.nsIn K mainGlobals (PySem.Str.ofString "_law_least") = some (some (.ref ff_law_least)))
    (lf_law_least : K.lookup ff_law_least = some ⟨ocf_law_least, odf_law_least, .func (PySem.W.fnOf (PySem.Str.ofString "_law_least") (PySem.Str.ofString "_law_least") (defArgs s_f_law_least) (defBody s_f_law_least) (defScope s_f_law_least) .none kVf_law_least dcf_law_least pmf_law_least anf_law_least cdf_law_least ctf_law_least), slf_law_least⟩)
    (cf_law_least : PySem.W.codeIn K cdf_law_least (PySem.Str.ofString "_law_least") = true)
    (kf_law_least : PySem.W.keepIn K (.ref ff_law_least) = true)
    (af_law_plus : PySem.W.nsIn K mainGlobals (PySem.Str.ofString "_law_plus") = some (some (.ref ff_law_plus)))
    (lf_law_plus : K.lookup ff_law_plus = some ⟨ocf_law_plus, odf_law_plus, .func (PySem.W.fnOf (PySem.Str.ofString "_law_plus") (PySem.Str.ofString "_law_plus") (defArgs s_f_law_plus) (defBody s_f_law_plus) (defScope s_f_law_plus) .none kVf_law_plus dcf_law_plus pmf_law_plus anf_law_plus cdf_law_plus ctf_law_plus), slf_law_plus⟩)
    (cf_law_plus : PySem.W.codeIn K cdf_law_plus (PySem.Str.ofString "_law_plus") = true)
    (kf_law_plus : PySem.W.keepIn K (.ref ff_law_plus) = true)
    (af_law_times : PySem.W.nsIn K mainGlobals (PySem.Str.ofString "_law_times") = some (some (.ref ff_law_times)))
    (lf_law_times : K.lookup ff_law_times = some ⟨ocf_law_times, odf_law_times, .func (PySem.W.fnOf (PySem.Str.ofString "_law_times") (PySem.Str.ofString "_law_times") (defArgs s_f_law_times) (defBody s_f_law_times) (defScope s_f_law_times) .none kVf_law_times dcf_law_times pmf_law_times anf_law_times cdf_law_times ctf_law_times), slf_law_times⟩)
    (cf_law_times : PySem.W.codeIn K cdf_law_times (PySem.Str.ofString "_law_times") = true)
    (kf_law_times : PySem.W.keepIn K (.ref ff_law_times) = true)
    (af_law_less : PySem.W.nsIn K mainGlobals (PySem.Str.ofString "_law_less") = some (some (.ref ff_law_less)))
    (lf_law_less : K.lookup ff_law_less = some ⟨ocf_law_less, odf_law_less, .func (PySem.W.fnOf (PySem.Str.ofString "_law_less") (PySem.Str.ofString "_law_less") (defArgs s_f_law_less) (defBody s_f_law_less) (defScope s_f_law_less) .none kVf_law_less dcf_law_less pmf_law_less anf_law_less cdf_law_less ctf_law_less), slf_law_less⟩)
    (cf_law_less : PySem.W.codeIn K cdf_law_less (PySem.Str.ofString "_law_less") = true)
    (kf_law_less : PySem.W.keepIn K (.ref ff_law_less) = true)
    (af_law_drawn : PySem.W.nsIn K mainGlobals (PySem.Str.ofString "_law_drawn") = some (some (.ref ff_law_drawn)))
    (lf_law_drawn : K.lookup ff_law_drawn = some ⟨ocf_law_drawn, odf_law_drawn, .func (PySem.W.fnOf (PySem.Str.ofString "_law_drawn") (PySem.Str.ofString "_law_drawn") (defArgs s_f_law_drawn) (defBody s_f_law_drawn) (defScope s_f_law_drawn) .none kVf_law_drawn dcf_law_drawn pmf_law_drawn anf_law_drawn cdf_law_drawn ctf_law_drawn), slf_law_drawn⟩)
    (cf_law_drawn : PySem.W.codeIn K cdf_law_drawn (PySem.Str.ofString "_law_drawn") = true)
    (kf_law_drawn : PySem.W.keepIn K (.ref ff_law_drawn) = true)
    (af_law_read : PySem.W.nsIn K mainGlobals (PySem.Str.ofString "_law_read") = some (some (.ref ff_law_read)))
    (lf_law_read : K.lookup ff_law_read = some ⟨ocf_law_read, odf_law_read, .func (PySem.W.fnOf (PySem.Str.ofString "_law_read") (PySem.Str.ofString "_law_read") (defArgs s_f_law_read) (defBody s_f_law_read) (defScope s_f_law_read) .none kVf_law_read dcf_law_read pmf_law_read anf_law_read cdf_law_read ctf_law_read), slf_law_read⟩)
    (cf_law_read : PySem.W.codeIn K cdf_law_read (PySem.Str.ofString "_law_read") = true)
    (kf_law_read : PySem.W.keepIn K (.ref ff_law_read) = true)
    (af_law : PySem.W.nsIn K mainGlobals (PySem.Str.ofString "law") = some (some (.ref ff_law)))
    (lf_law : K.lookup ff_law = some ⟨ocf_law, odf_law, .func (PySem.W.fnOf (PySem.Str.ofString "law") (PySem.Str.ofString "law") (defArgs s_f_law) (defBody s_f_law) (defScope s_f_law) .none kVf_law dcf_law pmf_law anf_law (.ref c_f_law) ctf_law), slf_law⟩)
    (cf_law : PySem.W.codeIn K (.ref c_f_law) (PySem.Str.ofString "law") = true)
    (kf_law : PySem.W.keepIn K (.ref ff_law) = true)
    (ap_f_law_f_read : p_f_law ≠ p_f_read) : Facts K mg ⟨c_f_read, p_f_read, c_f_law, p_f_law⟩ where
  b_abs := PySem.W.mg_none_of X G b_abs
  b_any := PySem.W.mg_none_of X G b_any
  b_enumerate := PySem.W.mg_none_of X G b_enumerate
  b_int := PySem.W.mg_none_of X G b_int
  b_len := PySem.W.mg_none_of X G b_len
  b_range := PySem.W.mg_none_of X G b_range
  b_str := PySem.W.mg_none_of X G b_str
  e_NumberError := ⟨C_NumberError, bm_NumberError, B_NumberError, nw_NumberError, it_NumberError, xF_NumberError, x2_NumberError, PySem.W.mg_of X G x1_NumberError, x3_NumberError, x4_NumberError, x5_NumberError⟩
  d_f_number := ⟨_, _, _, ⟨⟨⟨_, _, _, _, _, _, _, _, _, rfl, lf_number, cf_number, .inr ⟨by simp, Tf_number, _, [.int 1 tkf_number0], tnf_number, rfl, tf_number, rfl, .cons ⟨_, rfl⟩ (.nil)⟩⟩, kf_number⟩, PySem.W.mg_of X G af_number⟩⟩
  d_f_plus := ⟨_, _, _, ⟨⟨⟨_, _, _, _, _, _, _, _, _, rfl, lf_plus, cf_plus, .inl ⟨rfl, rfl⟩⟩, kf_plus⟩, PySem.W.mg_of X G af_plus⟩⟩
  d_f_minus := ⟨_, _, _, ⟨⟨⟨_, _, _, _, _, _, _, _, _, rfl, lf_minus, cf_minus, .inl ⟨rfl, rfl⟩⟩, kf_minus⟩, PySem.W.mg_of X G af_minus⟩⟩
  d_f_times := ⟨_, _, _, ⟨⟨⟨_, _, _, _, _, _, _, _, _, rfl, lf_times, cf_times, .inl ⟨rfl, rfl⟩⟩, kf_times⟩, PySem.W.mg_of X G af_times⟩⟩
  d_f_over := ⟨_, _, _, ⟨⟨⟨_, _, _, _, _, _, _, _, _, rfl, lf_over, cf_over, .inl ⟨rfl, rfl⟩⟩, kf_over⟩, PySem.W.mg_of X G af_over⟩⟩
  d_f_sign_of := ⟨_, _, _, ⟨⟨⟨_, _, _, _, _, _, _, _, _, rfl, lf_sign_of, cf_sign_of, .inl ⟨rfl, rfl⟩⟩, kf_sign_of⟩, PySem.W.mg_of X G af_sign_of⟩⟩
  d_f_compared := ⟨_, _, _, ⟨⟨⟨_, _, _, _, _, _, _, _, _, rfl, lf_compared, cf_compared, .inl ⟨rfl, rfl⟩⟩, kf_compared⟩, PySem.W.mg_of X G af_compared⟩⟩
  d_f_least_of := ⟨_, _, _, ⟨⟨⟨_, _, _, _, _, _, _, _, _, rfl, lf_least_of, cf_least_of, .inl ⟨rfl, rfl⟩⟩, kf_least_of⟩, PySem.W.mg_of X G af_least_of⟩⟩
  d_f_greatest_of := ⟨_, _, _, ⟨⟨⟨_, _, _, _, _, _, _, _, _, rfl, lf_greatest_of, cf_greatest_of, .inl ⟨rfl, rfl⟩⟩, kf_greatest_of⟩, PySem.W.mg_of X G af_greatest_of⟩⟩
  d_f_total := ⟨_, _, _, ⟨⟨⟨_, _, _, _, _, _, _, _, _, rfl, lf_total, cf_total, .inl ⟨rfl, rfl⟩⟩, kf_total⟩, PySem.W.mg_of X G af_total⟩⟩
  d_f_shown := ⟨_, _, _, ⟨⟨⟨_, _, _, _, _, _, _, _, _, rfl, lf_shown, cf_shown, .inl ⟨rfl, rfl⟩⟩, kf_shown⟩, PySem.W.mg_of X G af_shown⟩⟩
  d_f_read := ⟨_, _, ⟨⟨⟨_, _, _, _, _, _, _, _, _, rfl, lf_read, cf_read, .inl ⟨rfl, rfl⟩⟩, kf_read⟩, PySem.W.mg_of X G af_read⟩⟩
  d_f_whole_below := ⟨_, _, _, ⟨⟨⟨_, _, _, _, _, _, _, _, _, rfl, lf_whole_below, cf_whole_below, .inl ⟨rfl, rfl⟩⟩, kf_whole_below⟩, PySem.W.mg_of X G af_whole_below⟩⟩
  d_f_three_by_three := ⟨_, _, _, ⟨⟨⟨_, _, _, _, _, _, _, _, _, rfl, lf_three_by_three, cf_three_by_three, .inl ⟨rfl, rfl⟩⟩, kf_three_by_three⟩, PySem.W.mg_of X G af_three_by_three⟩⟩
  d_f_law_dice := ⟨_, _, _, ⟨⟨⟨_, _, _, _, _, _, _, _, _, rfl, lf_law_dice, cf_law_dice, .inl ⟨rfl, rfl⟩⟩, kf_law_dice⟩, PySem.W.mg_of X G af_law_dice⟩⟩
  d_f_law_roll := ⟨_, _, _, ⟨⟨⟨_, _, _, _, _, _, _, _, _, rfl, lf_law_roll, cf_law_roll, .inl ⟨rfl, rfl⟩⟩, kf_law_roll⟩, PySem.W.mg_of X G af_law_roll⟩⟩
  d_f_law_rounds := ⟨_, _, _, ⟨⟨⟨_, _, _, _, _, _, _, _, _, rfl, lf_law_rounds, cf_law_rounds, .inl ⟨rfl, rfl⟩⟩, kf_law_rounds⟩, PySem.W.mg_of X G af_law_rounds⟩⟩
  d_f_law_told := ⟨_, _, _, ⟨⟨⟨_, _, _, _, _, _, _, _, _, rfl, lf_law_told, cf_law_told, .inl ⟨rfl, rfl⟩⟩, kf_law_told⟩, PySem.W.mg_of X G af_law_told⟩⟩
  d_f_law_least := ⟨_, _, _, ⟨⟨⟨_, _, _, _, _, _, _, _, _, rfl, lf_law_least, cf_law_least, .inl ⟨rfl, rfl⟩⟩, kf_law_least⟩, PySem.W.mg_of X G af_law_least⟩⟩
  d_f_law_plus := ⟨_, _, _, ⟨⟨⟨_, _, _, _, _, _, _, _, _, rfl, lf_law_plus, cf_law_plus, .inl ⟨rfl, rfl⟩⟩, kf_law_plus⟩, PySem.W.mg_of X G af_law_plus⟩⟩
  d_f_law_times := ⟨_, _, _, ⟨⟨⟨_, _, _, _, _, _, _, _, _, rfl, lf_law_times, cf_law_times, .inl ⟨rfl, rfl⟩⟩, kf_law_times⟩, PySem.W.mg_of X G af_law_times⟩⟩
  d_f_law_less := ⟨_, _, _, ⟨⟨⟨_, _, _, _, _, _, _, _, _, rfl, lf_law_less, cf_law_less, .inl ⟨rfl, rfl⟩⟩, kf_law_less⟩, PySem.W.mg_of X G af_law_less⟩⟩
  d_f_law_drawn := ⟨_, _, _, ⟨⟨⟨_, _, _, _, _, _, _, _, _, rfl, lf_law_drawn, cf_law_drawn, .inl ⟨rfl, rfl⟩⟩, kf_law_drawn⟩, PySem.W.mg_of X G af_law_drawn⟩⟩
  d_f_law_read := ⟨_, _, _, ⟨⟨⟨_, _, _, _, _, _, _, _, _, rfl, lf_law_read, cf_law_read, .inl ⟨rfl, rfl⟩⟩, kf_law_read⟩, PySem.W.mg_of X G af_law_read⟩⟩
  d_f_law := ⟨_, _, ⟨⟨⟨_, _, _, _, _, _, _, _, _, rfl, lf_law, cf_law, .inl ⟨rfl, rfl⟩⟩, kf_law⟩, PySem.W.mg_of X G af_law⟩⟩
  told := ⟨C_NumberError, PySem.W.mg_of X G x1_NumberError, exm_own x4_NumberError y1 x5_NumberError y2⟩
  ap_f_law_f_read := ap_f_law_f_read
theorem the_end {P : Program} {w : World} {K : PySem.W.Frag} {mg : Str → Option Value} {c_f_read p_f_read c_f_law p_f_law : Addr} {fa : Addr} (T : Facts K mg ⟨c_f_read, p_f_read, c_f_law, p_f_law⟩) (hfa : mg "law" = some (.ref fa)) :
    ∃ (fd : FuncData) (sp : Sp), (∀ (s : Shared) (u : Value), BindsTo s fd ⟨[u], []⟩ [((PySem.Str.ofString "script"), u)]) ∧
      (∀ (H : Hp) (a : Addr) (ns : List Int), ns.length ≤ 63 → (∀ z ∈ ns, Builtin.Int.intBits z ≤ 1048576) → (∀ p ∈ ([((PySem.Str.ofString "read"), c_f_read, p_f_read), ((PySem.Str.ofString "law"), c_f_law, p_f_law)] : List (Str × Addr × Addr)), H p.2.2 = some (.tbl #[])) → SqL K H a (ns.map V.int) → sp [.ref a] H (fun v _ => v = .bl true) fun _ _ _ => False) ∧
      ∀ base : Heap, K.In base → base.Ns mainGlobals mg → (∀ p ∈ ([((PySem.Str.ofString "read"), c_f_read, p_f_read), ((PySem.Str.ofString "law"), c_f_law, p_f_law)] : List (Str × Addr × Addr)), LamX.TabB base mg p.2.1 p.2.2) → FnOk P w K mg base (L2.CX P w) 7 fa fd [(PySem.Str.ofString "script")] sp := by
  obtain ⟨f, fd, D0⟩ := T.d_f_law
  obtain rfl : f = fa := by have e := D0.m.symm.trans hfa; cases e; rfl
  refine ⟨fd, spLaw K mg (gOf ⟨c_f_read, p_f_read, c_f_law, p_f_law⟩ none []) PIk, fun s u => D0.F.toD.bindsA (ps := [(PySem.Str.ofString "script")]) (fun _ _ _ _ _ _ us hl => match us, hl with | [_], _ => rfl) s [u] rfl, fun H a ns hl hb hT hS => spLaw_of rfl (fun p hp => ?_) (fun p hp => ?_) hS ⟨hl, hb⟩, fun base _ _ hB => fn_the_law T ⟨(let t := hB ((PySem.Str.ofString "read"), c_f_read, p_f_read) (by simp); ⟨t.1, t.2, t.3⟩), (let t := hB ((PySem.Str.ofString "law"), c_f_law, p_f_law) (by simp); t)⟩ D0 law_math⟩
  · rw [List.mem_singleton.mp hp]
    exact hT ((PySem.Str.ofString "law"), c_f_law, p_f_law) (by simp)
  · rw [List.mem_singleton.mp hp]
    exact hT ((PySem.Str.ofString "read"), c_f_read, p_f_read) (by simp)
end K01
open PySem PySem.W PyProof.Rows
theorem PySem.Challenge.cw_solidstack_k01_numbers_in_least_terms_holds : PySem.Challenge.rw_solidstack_k01_numbers_in_least_terms.Holds := by
  w_on; o_law; k_head; (case hw => w_witness2)
  k_fill
  refine' DL.walk_dl (l := PySem.Challenge.rw_solidstack_k01_numbers_in_least_terms) (n := 63) (k := 7) (x := (PySem.Str.ofString "script")) [((PySem.Str.ofString "read"), _, _), ((PySem.Str.ofString "law"), _, _)] rfl (by decide) rfl ⟨rfl, by decide, by decide⟩ (fun w h Y => PySem.W.km_in_of Y) ?hcs ?F
  case hcs =>
    refine' fun w => List.forall_mem_cons.mpr ⟨DL.code_at ?g01 ?g02 ?g03 ?g04 ?g05 ?g06 ?g07, List.forall_mem_cons.mpr ⟨DL.code_at ?g11 ?g12 ?g13 ?g14 ?g15 ?g16 ?g17, fun _ hh => nomatch hh⟩⟩
    (case g01 => k_is); (case g02 => k_is); (case g03 => rfl); (case g04 => k_is); (case g05 => rfl); (case g06 => kernel_rfl); (case g07 => kernel_rfl)
    (case g11 => k_is); (case g12 => k_is); (case g13 => rfl); (case g14 => k_is); (case g15 => rfl); (case g16 => kernel_rfl); (case g17 => kernel_rfl)
  case F =>
    intro w mg fa h Y KX G hmg
    refine' K01.the_end ?T hmg
    case T =>
      refine' K01.facts_mk KX G ?b_abs ?b_any ?b_enumerate ?b_int ?b_len ?b_range ?b_str ?xF_NumberError ?x1_NumberError ?x2_NumberError ?x3_NumberError ?x4_NumberError ?x5_NumberError ?y1 ?y2 ?af_number ?lf_number ?cf_number ?kf_number ?tf_number ?af_plus ?lf_plus ?cf_plus ?kf_plus ?af_minus ?lf_minus ?cf_minus ?kf_minus ?af_times ?lf_times ?cf_times ?kf_times ?af_over ?lf_over ?cf_over ?kf_over ?af_sign_of ?lf_sign_of ?cf_sign_of ?kf_sign_of ?af_compared ?lf_compared ?cf_compared ?kf_compared ?af_least_of ?lf_least_of ?cf_least_of ?kf_least_of ?af_greatest_of ?lf_greatest_of ?cf_greatest_of ?kf_greatest_of ?af_total ?lf_total ?cf_total ?kf_total ?af_shown ?lf_shown ?cf_shown ?kf_shown ?af_read ?lf_read ?cf_read ?kf_read ?af_whole_below ?lf_whole_below ?cf_whole_below ?kf_whole_below ?af_three_by_three ?lf_three_by_three ?cf_three_by_three ?kf_three_by_three ?af_law_dice ?lf_law_dice ?cf_law_dice ?kf_law_dice ?af_law_roll ?lf_law_roll ?cf_law_roll ?kf_law_roll ?af_law_rounds ?lf_law_rounds ?cf_law_rounds ?kf_law_rounds ?af_law_told ?lf_law_told ?cf_law_told ?kf_law_told ?af_law_least ?lf_law_least ?cf_law_least ?kf_law_least ?af_law_plus ?lf_law_plus ?cf_law_plus ?kf_law_plus ?af_law_times ?lf_law_times ?cf_law_times ?kf_law_times ?af_law_less ?lf_law_less ?cf_law_less ?kf_law_less ?af_law_drawn ?lf_law_drawn ?cf_law_drawn ?kf_law_drawn ?af_law_read ?lf_law_read ?cf_law_read ?kf_law_read ?af_law ?lf_law ?cf_law ?kf_law ?ap_f_law_f_read
      (case b_abs => k_is)
      (case b_any => k_is)
      (case b_enumerate => k_is)
      (case b_int => k_is)
      (case b_len => k_is)
      (case b_range => k_is)
      (case b_str => k_is)
      (case xF_NumberError => exact PySem.F.excBase_ValueError)
      (case x1_NumberError => k_is)
      (case x2_NumberError => k_exc)
      (case x3_NumberError => k_is)
      (case x4_NumberError => k_is)
      (case x5_NumberError => k_is)
      (case y1 => k_is)
      (case y2 => k_is)
      (case af_number => k_is)
      (case lf_number => k_is)
      (case cf_number => k_is)
      (case kf_number => k_is)
      (case tf_number => k_is)
      (case af_plus => k_is)
      (case lf_plus => k_is)
      (case cf_plus => k_is)
      (case kf_plus => k_is)
      (case af_minus => k_is)
      (case lf_minus => k_is)
      (case cf_minus => k_is)
      (case kf_minus => k_is)
      (case af_times => k_is)
      (case lf_times => k_is)
      (case cf_times => k_is)
      (case kf_times => k_is)
      (case af_over => k_is)
      (case lf_over => k_is)
      (case cf_over => k_is)
      (case kf_over => k_is)
      (case af_sign_of => k_is)
      (case lf_sign_of => k_is)
      (case cf_sign_of => k_is)
      (case kf_sign_of => k_is)
      (case af_compared => k_is)
      (case lf_compared => k_is)
      (case cf_compared => k_is)
      (case kf_compared => k_is)
      (case af_least_of => k_is)
      (case lf_least_of => k_is)
      (case cf_least_of => k_is)
      (case kf_least_of => k_is)
      (case af_greatest_of => k_is)
      (case lf_greatest_of => k_is)
      (case cf_greatest_of => k_is)
      (case kf_greatest_of => k_is)
      (case af_total => k_is)
      (case lf_total => k_is)
      (case cf_total => k_is)
      (case kf_total => k_is)
      (case af_shown => k_is)
      (case lf_shown => k_is)
      (case cf_shown => k_is)
      (case kf_shown => k_is)
      (case af_read => k_is)
      (case lf_read => k_is)
      (case cf_read => k_is)
      (case kf_read => k_is)
      (case af_whole_below => k_is)
      (case lf_whole_below => k_is)
      (case cf_whole_below => k_is)
      (case kf_whole_below => k_is)
      (case af_three_by_three => k_is)
      (case lf_three_by_three => k_is)
      (case cf_three_by_three => k_is)
      (case kf_three_by_three => k_is)
      (case af_law_dice => k_is)
      (case lf_law_dice => k_is)
      (case cf_law_dice => k_is)
      (case kf_law_dice => k_is)
      (case af_law_roll => k_is)
      (case lf_law_roll => k_is)
      (case cf_law_roll => k_is)
      (case kf_law_roll => k_is)
      (case af_law_rounds => k_is)
      (case lf_law_rounds => k_is)
      (case cf_law_rounds => k_is)
      (case kf_law_rounds => k_is)
      (case af_law_told => k_is)
      (case lf_law_told => k_is)
      (case cf_law_told => k_is)
      (case kf_law_told => k_is)
      (case af_law_least => k_is)
      (case lf_law_least => k_is)
      (case cf_law_least => k_is)
      (case kf_law_least => k_is)
      (case af_law_plus => k_is)
      (case lf_law_plus => k_is)
      (case cf_law_plus => k_is)
      (case kf_law_plus => k_is)
      (case af_law_times => k_is)
      (case lf_law_times => k_is)
      (case cf_law_times => k_is)
      (case kf_law_times => k_is)
      (case af_law_less => k_is)
      (case lf_law_less => k_is)
      (case cf_law_less => k_is)
      (case kf_law_less => k_is)
      (case af_law_drawn => k_is)
      (case lf_law_drawn => k_is)
      (case cf_law_drawn => k_is)
      (case kf_law_drawn => k_is)
      (case af_law_read => k_is)
      (case lf_law_read => k_is)
      (case cf_law_read => k_is)
      (case kf_law_read => k_is)
      (case af_law => k_is)
      (case lf_law => k_is)
      (case cf_law => k_is)
      (case kf_law => k_is)
      (case ap_f_law_f_read => decide)
