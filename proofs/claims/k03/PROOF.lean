import PyProof.Rows.All
import Wide.All
import OpenK.AllK
import Wide.FinOn
import HandS.ForExc
import HandS.ForMost
import HandS.Walk
import HandS.Zip
import HandS.TupAny
import HandS.Deep
import HandS.Flow
import HandS.TupMul
import HandS.TupLe
import HandS.IsInst
import HandS.Small
import KE.DataFind
import PyProof.ReprRoads
import PyProof.CallFns
import KE.SortData
import HandS.Zip0
import KE.KDictZip
import HandS.Star
import HandS.GenList
import HandS.AnyAll
import HandS.Defaults
import HandS.Head0
import HandS.Head1
import HandS.Head2
import HandS.HeadEnd
import HandS.HeadHook1
import HandS.HeadHook2
import HandS.HeadHook3
import HandS.HeadHook4
import HandS.HeadWalk
import HandS.EndTab
import PySem.Challenge.RW_sixgates_k03_ties_kept_by_gates_of_four
set_option Elab.async false
set_option linter.all false
set_option maxRecDepth 100000
set_option autoImplicit false
namespace PB
open PySem PySem.Spec PyProof.Rows L2
variable {Ts : List Addr}

abbrev D := PyData
/-- what a name may hold: data that never changes, or a place of the store -/
inductive Xv where
  | d (a : D)
  | r (n : Nat)
  deriving Inhabited
/-- what may change: a list, a dict with keys that are ints and texts; a thing that has become data -/
inductive MO where
  | lst (xs : List Xv)
  | dct (kvs : List (Key × Xv))
  | rol (xs : List Xv)
  | dead
def MO.mut : MO → Bool
  | .dead => false
  | .rol _ => false
  | _ => true
abbrev Sto := List MO
abbrev Env0' := List (Option Xv)
/-- an outcome -/
inductive R (α : Type) where
  | ok (a : α) (S : Sto)
  | exc (c : Nat) (as : List Xv) (S : Sto)
  | bad
def R.bind {α β : Type} (r : R α) (f : α → Sto → R β) : R β := match r with
  | .ok a S => f a S
  | .exc c as S => .exc c as S
  | .bad => .bad

/-- the places that may change, the hidden lists -/
def live (S : Sto) (mu hs : List Addr) (a : Addr) : Prop := a ∈ hs ∨ ∃ (r : Nat) (o : MO), S[r]? = some o ∧ o.mut = true ∧ mu[r]? = some a

mutual
def DenD (K : PySem.W.Frag) (lv : Addr → Prop) (H : Hp) : D → V → Prop
  | .none, v => v = .non
  | .bool b, v => v = .bl b
  | .int i, v => v = .int i
  | .str x, v => v = .str x
  | .tuple xs, v => ∃ a vs, v = .ref a ∧ SqT K H a vs ∧ xs.length ≤ sizeLine ∧ DenL K lv H xs vs
  | .list xs, v => ∃ a vs, v = .ref a ∧ H a = some (.lst vs) ∧ ¬ lv a ∧ xs.length ≤ sizeLine ∧ DenL K lv H xs vs
  | .dict _, _ => False
def DenL (K : PySem.W.Frag) (lv : Addr → Prop) (H : Hp) : List D → List V → Prop
  | [], vs => vs = []
  | x :: xs, vs => ∃ v r, vs = v :: r ∧ DenD K lv H x v ∧ DenL K lv H xs r
end
def DenX (K : PySem.W.Frag) (lv : Addr → Prop) (mu : List Addr) (H : Hp) : Xv → V → Prop
  | .d a, v => DenD K lv H a v
  | .r n, v => ∃ a, v = .ref a ∧ mu[n]? = some a
abbrev DenXs (K : PySem.W.Frag) (lv : Addr → Prop) (mu : List Addr) (H : Hp) : List Xv → List V → Prop := Paired (DenX K lv mu H)
abbrev DenKv (K : PySem.W.Frag) (lv : Addr → Prop) (mu : List Addr) (H : Hp) : List (Key × Xv) → List (Key × V) → Prop :=
  Paired fun p q => p.1 = q.1 ∧ DenX K lv mu H p.2 q.2

def MOk (K : PySem.W.Frag) (lv : Addr → Prop) (mu : List Addr) (H : Hp) (a : Addr) : MO → Prop
  | .lst xs => xs.length ≤ sizeLine ∧ ∃ vs, H a = some (.lst vs) ∧ DenXs K lv mu H xs vs
  | .dct kvs => ∃ ws, H a = some (.dK ws) ∧ DenKv K lv mu H kvs ws
  | .rol xs => xs.length ≤ sizeLine ∧ ∃ vs, (Rd H a (.lst vs) ∧ ¬ lv a ∨ ∃ (o : Obj) (its : Array Value) (n : Nat), K.lookup a = some o ∧ o.cls = .type "list" ∧ o.dict = none ∧ o.data = .seq its n ∧ its.size ≤ sizeLine ∧ Vals vs its.toList) ∧ DenXs K lv mu H xs vs
  | .dead => True

/-- the store is held -/
structure StoOk (K : PySem.W.Frag) (Ts : List Addr) (S : Sto) (mu hs : List Addr) (H : Hp) : Prop where
  len : mu.length = S.length
  inj : ∀ (r r' : Nat) (o o' : MO) (a : Addr), S[r]? = some o → S[r']? = some o' → o.mut = true → o'.mut = true → mu[r]? = some a → mu[r']? = some a → r = r'
  ok : ∀ (r : Nat) (o : MO) (a : Addr), S[r]? = some o → mu[r]? = some a → MOk K (live S mu hs) mu H a o
  hid : ∀ a ∈ hs, H a ≠ none
  hidn : ∀ a ∈ hs, ∀ (r : Nat) (o : MO), S[r]? = some o → o.mut = true → mu[r]? ≠ some a
  tab : ∀ P ∈ Ts, ∃ ps : Array Value, H P = some (.tbl ps) ∧ TriplesOk ps.toList

/-- what lies between two states: data stays -/
structure Go (S : Sto) (mu : List Addr) (hs : List Addr) (H : Hp) (S' : Sto) (mu' : List Addr) (H' : Hp) : Prop where
  pre : ∀ (r : Nat) (a : Addr), mu[r]? = some a → mu'[r]? = some a
  tup : ∀ a vs, H a = some (.tup vs) → H' a = some (.tup vs)
  frz : ∀ a o u, H a = some (.frz o u) → H' a = some (.frz o u)
  tbl : ∀ a ps, H a = some (.tbl ps) → ∃ more, H' a = some (.tbl (ps ++ more))
  stay : ∀ a o, H a = some o → (∀ ps, o ≠ .tbl ps) → ¬ live S mu hs a → H' a = some o
  nlv : ∀ a, H a ≠ none → ¬ live S mu hs a → ¬ live S' mu' hs a
  hid : ∀ a ∈ hs, ∀ o, H a = some o → (∀ ps, o ≠ .tbl ps) → H' a = some o
  hadn : ∀ a, H a ≠ none → H' a ≠ none

section
variable {K : PySem.W.Frag} {S S1 S2 S' : Sto} {mu mu1 mu2 mu' hs : List Addr} {H H1 H2 H' : Hp}
theorem Go.refl : Go S mu hs H S mu H := ⟨fun _ _ h => h, fun _ _ h => h, fun _ _ _ h => h, fun _ ps h => ⟨#[], by rw [h]; simp⟩, fun _ _ h _ _ => h, fun _ _ n => n, fun _ _ _ h _ => h, fun _ h => h⟩
theorem Go.trans (a : Go S mu hs H S1 mu1 H1) (b : Go S1 mu1 hs H1 S2 mu2 H2) : Go S mu hs H S2 mu2 H2 where
  pre := fun r x h => b.pre r x (a.pre r x h)
  tup := fun x vs h => b.tup x vs (a.tup x vs h)
  frz := fun x o u h => b.frz x o u (a.frz x o u h)
  tbl := fun x ps h => by
    obtain ⟨m1, e1⟩ := a.tbl x ps h
    obtain ⟨m2, e2⟩ := b.tbl x _ e1
    exact ⟨m1 ++ m2, by rw [e2, Array.append_assoc]⟩
  stay := fun x o h nt n => b.stay x o (a.stay x o h nt n) nt (a.nlv x (by rw [h]; exact nofun) n)
  nlv := fun x h n => b.nlv x (a.hadn x h) (a.nlv x h n)
  hid := fun x hx o h nt => b.hid x hx o (a.hid x hx o h nt) nt
  hadn := fun x h => b.hadn x (a.hadn x h)
theorem Go.lst (g : Go S mu hs H S' mu' H') (a : Addr) (vs : List V) (h : H a = some (.lst vs)) (n : ¬ live S mu hs a) : H' a = some (.lst vs) ∧ ¬ live S' mu' hs a :=
  ⟨g.stay a _ h (fun _ => nofun) n, g.nlv a (by rw [h]; exact nofun) n⟩
theorem Go.sqT (g : Go S mu hs H S' mu' H') {a : Addr} {vs : List V} (h : SqT K H a vs) : SqT K H' a vs := by
  rcases h with h | h
  · rcases h with h | ⟨o, h⟩
    · exact .inl (.inl (g.tup _ _ h))
    · exact .inl (.inr ⟨o, g.frz _ _ _ h⟩)
  · exact .inr h
theorem Go.rdL (g : Go S mu hs H S' mu' H') {a : Addr} {vs : List V} (h : Rd H a (.lst vs)) (n : ¬ live S mu hs a) : Rd H' a (.lst vs) ∧ ¬ live S' mu' hs a := by
  rcases h with h | ⟨o, h⟩
  · exact ⟨.inl (g.lst _ _ h n).1, (g.lst _ _ h n).2⟩
  · exact ⟨.inr ⟨o, g.frz _ _ _ h⟩, g.nlv _ (by rw [h]; exact nofun) n⟩

/-- data stays data where its parts stay -/
structure Keep (K : PySem.W.Frag) (lv lv' : Addr → Prop) (H H' : Hp) : Prop where
  tup : ∀ a vs, SqT K H a vs → SqT K H' a vs
  lst : ∀ a vs, H a = some (.lst vs) → ¬ lv a → H' a = some (.lst vs) ∧ ¬ lv' a
  rd : ∀ a vs, Rd H a (.lst vs) → ¬ lv a → Rd H' a (.lst vs) ∧ ¬ lv' a
theorem Go.keep (g : Go S mu hs H S' mu' H') : Keep K (live S mu hs) (live S' mu' hs) H H' := ⟨fun _ _ h => g.sqT h, fun _ _ h n => g.lst _ _ h n, fun _ _ h n => g.rdL h n⟩
mutual
theorem DenD.keep {lv lv' : Addr → Prop} (g : Keep K lv lv' H H') : ∀ (x : D) (v : V), DenD K lv H x v → DenD K lv' H' x v
  | .none, _, h => h
  | .bool _, _, h => h
  | .int _, _, h => h
  | .str _, _, h => h
  | .tuple xs, v, h => by
    unfold DenD at h ⊢
    obtain ⟨a, vs, e, q, l, r⟩ := h
    exact ⟨a, vs, e, g.tup _ _ q, l, DenL.keep g xs vs r⟩
  | .list xs, v, h => by
    unfold DenD at h ⊢
    obtain ⟨a, vs, e, q, n, l, r⟩ := h
    obtain ⟨q', n'⟩ := g.lst _ _ q n
    exact ⟨a, vs, e, q', n', l, DenL.keep g xs vs r⟩
  | .dict _, _, h => by unfold DenD at h; exact h.elim
theorem DenL.keep {lv lv' : Addr → Prop} (g : Keep K lv lv' H H') : ∀ (xs : List D) (vs : List V), DenL K lv H xs vs → DenL K lv' H' xs vs
  | [], _, h => h
  | x :: xs, vs, h => by
    unfold DenL at h ⊢
    obtain ⟨v, r, e, hv, hr⟩ := h
    exact ⟨v, r, e, DenD.keep g x v hv, DenL.keep g xs r hr⟩
end
theorem DenX.go (g : Go S mu hs H S' mu' H') {x : Xv} {v : V} (h : DenX K (live S mu hs) mu H x v) : DenX K (live S' mu' hs) mu' H' x v := by
  cases x with
  | d a => exact DenD.keep g.keep a v h
  | r n =>
    obtain ⟨a, e, q⟩ := h
    exact ⟨a, e, g.pre _ _ q⟩
theorem DenXs.go (g : Go S mu hs H S' mu' H') {xs : List Xv} {vs : List V} (h : DenXs K (live S mu hs) mu H xs vs) : DenXs K (live S' mu' hs) mu' H' xs vs :=
  Paired.mapP h fun _ _ q => DenX.go g q

/-- the names: σ holds what ρ says -/
def EnvOk (K : PySem.W.Frag) (lv : Addr → Prop) (mu : List Addr) (H : Hp) (ρ : Env0') (σ : L2.St) : Prop :=
  σ.length = ρ.length ∧ ∀ (i : Nat) (x : Xv), ρ[i]? = some (some x) → ∃ v, σ[i]? = some (some v) ∧ DenX K lv mu H x v
theorem EnvOk.go (g : Go S mu hs H S' mu' H') {ρ : Env0'} {σ : L2.St} (h : EnvOk K (live S mu hs) mu H ρ σ) : EnvOk K (live S' mu' hs) mu' H' ρ σ :=
  ⟨h.1, fun i x e => let ⟨v, e1, q⟩ := h.2 i x e; ⟨v, e1, DenX.go g q⟩⟩
theorem EnvOk.set {lv : Addr → Prop} {ρ : Env0'} {σ : L2.St} (h : EnvOk K lv mu H ρ σ) {i : Nat} {x : Xv} {v : V} (q : DenX K lv mu H x v) : EnvOk K lv mu H (ρ.set i (some x)) (σ.set i (some v)) := by
  refine ⟨by simpa using h.1, fun j y e => ?_⟩
  by_cases hj : j = i
  · subst hj
    by_cases hl : j < ρ.length
    · rw [List.getElem?_set_self hl] at e
      cases e
      exact ⟨v, List.getElem?_set_self (l := σ) (show j < σ.length by rw [h.1]; exact hl), q⟩
    · rw [List.getElem?_eq_none (by simpa using hl)] at e; cases e
  · rw [List.getElem?_set_ne (Ne.symm hj)] at e ⊢
    exact h.2 j y e
end

/-- what is asked of an exception: class number, arguments; the class's value and the error's own dict -/
structure XW where
  w : Nat → List Xv → Sto → List Addr → Hp → Prop
  ts : List Addr
/-- none is wanted -/
def XW.no (E : XW) : XW := ⟨fun _ _ _ _ _ => False, E.ts⟩
def Post {α : Type} (K : PySem.W.Frag) (E : XW) (S : Sto) (mu hs : List Addr) (H : Hp) (k : α → Sto → List Addr → Hp → Prop) : R α → Prop
  | .ok x S' => ∀ mu' H', Go S mu hs H S' mu' H' → StoOk K E.ts S' mu' hs H' → k x S' mu' H'
  | .exc c as S' => ∀ mu' H', Go S mu hs H S' mu' H' → StoOk K E.ts S' mu' hs H' → E.w c as S' mu' H'
  | .bad => False
/-- one after the other -/
theorem Post.bind {α β : Type} {K : PySem.W.Frag} {E : XW} {S : Sto} {mu hs : List Addr} {H : Hp} {k : β → Sto → List Addr → Hp → Prop} {r : R α} {f : α → Sto → R β} (h : Post K E S mu hs H k (r.bind f)) :
    Post K E S mu hs H (fun x S1 mu1 H1 => Go S mu hs H S1 mu1 H1 ∧ StoOk K E.ts S1 mu1 hs H1 ∧ Post K E S1 mu1 hs H1 k (f x S1)) r := by
  cases r with
  | ok x S1 =>
    intro mu1 H1 g1 s1
    refine ⟨g1, s1, ?_⟩
    have h' : Post K E S mu hs H k (f x S1) := h
    revert h'
    cases f x S1 with
    | ok y S2 => exact fun h' mu2 H2 g2 s2 => h' mu2 H2 (g1.trans g2) s2
    | exc c as S2 => exact fun h' mu2 H2 g2 s2 => h' mu2 H2 (g1.trans g2) s2
    | bad => exact fun h' => h'
  | exc c as S1 => exact h
  | bad => exact h
theorem Post.mono {α : Type} {K : PySem.W.Frag} {E : XW} {S : Sto} {mu hs : List Addr} {H : Hp} {k k' : α → Sto → List Addr → Hp → Prop} {r : R α} (h : Post K E S mu hs H k r)
    (hk : ∀ x S' mu' H', Go S mu hs H S' mu' H' → StoOk K E.ts S' mu' hs H' → k x S' mu' H' → k' x S' mu' H') : Post K E S mu hs H k' r := by
  cases r with
  | ok x S1 => exact fun mu1 H1 g s => hk _ _ _ _ g s (h mu1 H1 g s)
  | exc c as S1 => exact h
  | bad => exact h
theorem Post.here {α : Type} {K : PySem.W.Frag} {E : XW} {S : Sto} {mu hs : List Addr} {H : Hp} {k : α → Sto → List Addr → Hp → Prop} {x : α} (h : Post K E S mu hs H k (.ok x S)) (s : StoOk K E.ts S mu hs H) : k x S mu H := h mu H Go.refl s

theorem Post.mono' {α : Type} {K : PySem.W.Frag} {E : XW} {S : Sto} {mu hs : List Addr} {H : Hp} {k k' : α → Sto → List Addr → Hp → Prop} {r : R α} (h : Post K E S mu hs H k r)
    (hk : ∀ x S' mu' H', r = .ok x S' → Go S mu hs H S' mu' H' → StoOk K E.ts S' mu' hs H' → k x S' mu' H' → k' x S' mu' H') : Post K E S mu hs H k' r := by
  cases r with
  | ok x S1 => exact fun mu1 H1 g s => hk _ _ _ _ rfl g s (h mu1 H1 g s)
  | exc c as S1 => exact h
  | bad => exact h
theorem R.bind_ok {α β : Type} {r : R α} {f : α → Sto → R β} {y : β} {S : Sto} (h : r.bind f = .ok y S) : ∃ x S1, r = .ok x S1 ∧ f x S1 = .ok y S := by
  cases r with
  | ok x S1 => exact ⟨x, S1, rfl, h⟩
  | exc c as S1 => cases h
  | bad => cases h
/-- the reading that a meaning gives -/
def tD (K : PySem.W.Frag) (E : XW) (p : Env0' → Sto → R Xv) : TE := fun σ H Q => ∃ ρ S mu hs, EnvOk K (live S mu hs) mu H ρ σ ∧ StoOk K E.ts S mu hs H ∧
  Post K E S mu hs H (fun x S' mu' H' => ∀ v, DenX K (live S' mu' hs) mu' H' x v → Q v H') (p ρ S)
def tDs (K : PySem.W.Frag) (E : XW) (p : Env0' → Sto → R (List Xv)) : TA := fun σ H Q => ∃ ρ S mu hs, EnvOk K (live S mu hs) mu H ρ σ ∧ StoOk K E.ts S mu hs H ∧
  Post K E S mu hs H (fun xs S' mu' H' => ∀ vs, DenXs K (live S' mu' hs) mu' H' xs vs → Q vs H') (p ρ S)
def tDt (K : PySem.W.Frag) (E : XW) (p : Env0' → Sto → R Bool) : TT := fun σ H Q => ∃ ρ S mu hs, EnvOk K (live S mu hs) mu H ρ σ ∧ StoOk K E.ts S mu hs H ∧
  Post K E S mu hs H (fun b S' mu' H' => Q b H') (p ρ S)

/-- a reading that asks for more -/
theorem PE.imp {X : Cx} {e : Expr} {t t' : TE} (h : PE X e t) (hi : ∀ σ H Q, t' σ H Q → t σ H Q) : PE X e t' := ⟨fun pins s σ H Q I q => h.run pins s σ H Q I (hi σ H Q q)⟩
theorem PT.imp {X : Cx} {e : Expr} {t t' : TT} (h : PT X e t) (hi : ∀ σ H Q, t' σ H Q → t σ H Q) : PT X e t' := ⟨fun pins s σ H Q I q => h.run pins s σ H Q I (hi σ H Q q)⟩
theorem PW.imp {X : Cx} {e : Expr} {t t' : TT} (h : PW X e t) (hi : ∀ σ H Q, t' σ H Q → t σ H Q) : PW X e t' := ⟨fun wh pins s σ H Q I q => h.run wh pins s σ H Q I (hi σ H Q q)⟩
theorem PA.imp {X : Cx} {es : List Expr} {t t' : TA} (h : PA X es t) (hi : ∀ σ H Q, t' σ H Q → t σ H Q) : PA X es t' := ⟨fun pos pins s σ H Q I q => h.run pos pins s σ H Q I (hi σ H Q q)⟩
theorem PS.imp {X : Cx} {st : Stmt} {t t' : TS} (h : PS X st t) (hi : ∀ D σ H, t' D σ H → t D σ H) : PS X st t' := ⟨fun pins s σ H D I q => h.run pins s σ H D I (hi D σ H q)⟩
theorem PSs.imp {X : Cx} {st : List Stmt} {t t' : TS} (h : PSs X st t) (hi : ∀ D σ H, t' D σ H → t D σ H) : PSs X st t' := ⟨fun pins s σ H D I q => h.run pins s σ H D I (hi D σ H q)⟩

section
variable {K : PySem.W.Frag} {S S' : Sto} {mu mu' hs : List Addr} {H : Hp} {p a : Addr}
theorem StoOk.had (s : StoOk K Ts S mu hs H) {a : Addr} (h : live S mu hs a) : H a ≠ none := by
  rcases h with h | ⟨r, o, e, m, q⟩
  · exact s.hid a h
  · have k := s.ok r o a e q
    cases o with
    | lst xs => obtain ⟨_, vs, e, _⟩ := k; rw [e]; exact nofun
    | dct xs => obtain ⟨vs, e, _⟩ := k; rw [e]; exact nofun
    | rol xs => cases m
    | dead => cases m
theorem StoOk.fresh (s : StoOk K Ts S mu hs H) (hp : H p = none) : ¬ live S mu hs p := fun h => s.had h hp
theorem MOk.go {lv lv' : Addr → Prop} {H' : Hp} (k : Keep K lv lv' H H') (hm : ∀ (r : Nat) (a : Addr), mu[r]? = some a → mu'[r]? = some a) {o : MO} (hst : o.mut = true → ∀ o', H a = some o' → H' a = some o') (h : MOk K lv mu H a o) : MOk K lv' mu' H' a o := by
  have dx : ∀ {x : Xv} {v : V}, DenX K lv mu H x v → DenX K lv' mu' H' x v := fun {x v} q => by
    cases x with
    | d a => exact DenD.keep k a v q
    | r n => obtain ⟨a, e, z⟩ := q; exact ⟨a, e, hm _ _ z⟩
  cases o with
  | lst xs => obtain ⟨l, vs, e, q⟩ := h; exact ⟨l, vs, hst rfl _ e, Paired.mapP q fun _ _ z => dx z⟩
  | dct xs => obtain ⟨vs, e, q⟩ := h; exact ⟨vs, hst rfl _ e, Paired.mapP q fun _ _ z => ⟨z.1, dx z.2⟩⟩
  | rol xs =>
    obtain ⟨l, vs, e, q⟩ := h
    refine ⟨l, vs, ?_, Paired.mapP q fun _ _ z => dx z⟩
    rcases e with ⟨e1, e2⟩ | e
    · exact .inl (k.rd _ _ e1 e2)
    · exact .inr e
  | dead => trivial
/-- data laid at a new place -/
theorem Go.laid (s : StoOk K Ts S mu hs H) (hp : H p = none) (o : HO) : Go S mu hs H S mu (upd H p o) where
  pre := fun _ _ h => h
  tup := fun a vs h => by rw [upd_ne (ne_of_none h hp)]; exact h
  frz := fun a o u h => by rw [upd_ne (ne_of_none h hp)]; exact h
  tbl := fun a ps h => ⟨#[], by rw [upd_ne (ne_of_none h hp), h]; simp⟩
  stay := fun a u h _ _ => by rw [upd_ne (ne_of_none h hp)]; exact h
  nlv := fun _ _ n => n
  hid := fun a _ u h _ => by rw [upd_ne (ne_of_none h hp)]; exact h
  hadn := fun a h => by
    by_cases e : a = p
    · rw [e, upd_same]; exact nofun
    · rw [upd_ne e]; exact h
theorem StoOk.laid (s : StoOk K Ts S mu hs H) (hp : H p = none) (o : HO) : StoOk K Ts S mu hs (upd H p o) := by
  have g := Go.laid s hp o
  refine ⟨s.len, s.inj, fun r m a e q => ?_, fun a ha => ?_, s.hidn, fun P hP => let ⟨ps, e, t⟩ := s.tab P hP; ⟨ps, (upd_ne (ne_of_none e hp)).trans e, t⟩⟩
  · refine MOk.go g.keep (fun _ _ h => h) (fun _ o' h => ?_) (s.ok r m a e q)
    rw [upd_ne (ne_of_none h hp)]; exact h
  · exact g.hadn a (s.hid a ha)
end
end PB

namespace PB
open PySem PySem.Spec PyProof.Rows L2
variable {Ts : List Addr}

def allD : List Xv → Option (List D)
  | [] => some []
  | .d a :: r => (allD r).map (a :: ·)
  | .r _ :: _ => none
/-- a value as data, a list of the store as it is now -/
def datOf (S : Sto) : Xv → Option D
  | .d a => some a
  | .r n => match S[n]? with
    | some (.lst xs) => (allD xs).map .list
    | some (.rol xs) => (allD xs).map .list
    | _ => none
def truD : D → Option Bool
  | .none => some false
  | .bool b => some b
  | .int i => some (i != 0)
  | .str x => if x.length ≤ sizeLine then some ((x.length : Int) != 0) else none
  | .tuple xs => some !xs.isEmpty
  | .list xs => some !xs.isEmpty
  | .dict _ => none
def truX (S : Sto) : Xv → Option Bool
  | .d a => truD a
  | .r n => match S[n]? with
    | some (.lst xs) => some !xs.isEmpty
    | some (.rol xs) => some !xs.isEmpty
    | some (.dct kvs) => some !kvs.isEmpty
    | _ => none
def lenX (S : Sto) : Xv → Option Nat
  | .d (.str x) => if x.length ≤ sizeLine then some x.length else none
  | .d (.tuple xs) => some xs.length
  | .d (.list xs) => some xs.length
  | .r n => match S[n]? with
    | some (.lst xs) => some xs.length
    | some (.rol xs) => some xs.length
    | some (.dct kvs) => some kvs.length
    | _ => none
  | _ => none

section
variable {K : PySem.W.Frag} {lv : Addr → Prop} {S : Sto} {mu hs : List Addr} {H : Hp}
mutual
theorem DenD.dp : ∀ (d : D) (v : V), DenD K lv H d v → Dp K H v d
  | .none, v, h => by unfold DenD at h; subst h; exact .non
  | .bool b, v, h => by unfold DenD at h; subst h; exact .bl b
  | .int i, v, h => by unfold DenD at h; subst h; exact .int i
  | .str x, v, h => by unfold DenD at h; subst h; exact .str x
  | .tuple xs, v, h => by
    unfold DenD at h
    obtain ⟨a, vs, rfl, q, _, r⟩ := h
    exact .tup q (DenL.dp xs vs r)
  | .list xs, v, h => by
    unfold DenD at h
    obtain ⟨a, vs, rfl, q, _, _, r⟩ := h
    exact .lst (.inl (.inl q)) (DenL.dp xs vs r)
  | .dict _, _, h => by unfold DenD at h; exact h.elim
theorem DenL.dp : ∀ (ds : List D) (vs : List V), DenL K lv H ds vs → DpAll K H vs ds
  | [], _, h => by unfold DenL at h; subst h; exact .nil
  | d :: ds, vs, h => by
    unfold DenL at h
    obtain ⟨v, r, rfl, hv, hr⟩ := h
    exact .cons (DenD.dp d v hv) (DenL.dp ds r hr)
end
theorem DenL.length : ∀ {ds : List D} {vs : List V}, DenL K lv H ds vs → ds.length = vs.length
  | [], _, h => by unfold DenL at h; subst h; rfl
  | d :: ds, vs, h => by
    unfold DenL at h
    obtain ⟨v, r, rfl, hv, hr⟩ := h
    simp [DenL.length hr]
theorem DenL.get : ∀ {ds : List D} {vs : List V} {i : Nat} {d : D}, DenL K lv H ds vs → ds[i]? = some d → ∃ v, vs[i]? = some v ∧ DenD K lv H d v
  | [], _, _, _, h, e => by cases e
  | x :: ds, vs, 0, d, h, e => by
    unfold DenL at h
    obtain ⟨v, r, rfl, hv, hr⟩ := h
    cases e
    exact ⟨v, rfl, hv⟩
  | x :: ds, vs, i + 1, d, h, e => by
    unfold DenL at h
    obtain ⟨v, r, rfl, hv, hr⟩ := h
    obtain ⟨u, e1, q⟩ := DenL.get (i := i) hr (by simpa using e)
    exact ⟨u, by simpa using e1, q⟩
theorem DenL.append : ∀ {ds es : List D} {vs us : List V}, DenL K lv H ds vs → DenL K lv H es us → DenL K lv H (ds ++ es) (vs ++ us)
  | [], _, _, _, h, h2 => by unfold DenL at h; subst h; exact h2
  | x :: ds, es, vs, us, h, h2 => by
    unfold DenL at h
    obtain ⟨v, r, rfl, hv, hr⟩ := h
    show DenL K lv H (x :: (ds ++ es)) (v :: (r ++ us))
    unfold DenL
    exact ⟨v, _, rfl, hv, DenL.append hr h2⟩
theorem DenL.take : ∀ (n : Nat) {ds : List D} {vs : List V}, DenL K lv H ds vs → DenL K lv H (ds.take n) (vs.take n)
  | 0, _, _, h => by rw [List.take_zero, List.take_zero]; unfold DenL; rfl
  | n + 1, [], _, h => by unfold DenL at h; subst h; simp [DenL]
  | n + 1, x :: ds, vs, h => by
    unfold DenL at h
    obtain ⟨v, r, rfl, hv, hr⟩ := h
    rw [List.take_succ_cons, List.take_succ_cons]
    unfold DenL
    exact ⟨v, _, rfl, hv, DenL.take n hr⟩
theorem DenL.drop : ∀ (n : Nat) {ds : List D} {vs : List V}, DenL K lv H ds vs → DenL K lv H (ds.drop n) (vs.drop n)
  | 0, _, _, h => h
  | n + 1, [], _, h => by unfold DenL at h; subst h; simp [DenL]
  | n + 1, x :: ds, vs, h => by
    unfold DenL at h
    obtain ⟨v, r, rfl, hv, hr⟩ := h
    exact DenL.drop n hr
theorem DenXs.allD : ∀ {xs : List Xv} {vs : List V} {ds : List D}, DenXs K lv mu H xs vs → allD xs = some ds → DenL K lv H ds vs
  | [], _, _, .nil, e => by cases e; unfold DenL; rfl
  | .d a :: r, _, ds, .cons q t, e => by
    unfold PB.allD at e
    cases z : PB.allD r with
    | none => rw [z] at e; cases e
    | some es =>
      rw [z] at e; cases e
      unfold DenL
      exact ⟨_, _, rfl, q, DenXs.allD t z⟩
  | .r _ :: _, _, _, _, e => by cases e
theorem DenL.xs : ∀ {ds : List D} {vs : List V}, DenL K lv H ds vs → DenXs K lv mu H (ds.map .d) vs
  | [], _, h => by unfold DenL at h; subst h; exact .nil
  | d :: ds, vs, h => by
    unfold DenL at h
    obtain ⟨v, r, rfl, hv, hr⟩ := h
    exact .cons hv (DenL.xs hr)
theorem Vals.lengthX {xs : List Xv} {vs : List V} (h : DenXs K lv mu H xs vs) : xs.length = vs.length := Paired.length h
theorem rol_sq {a : Addr} {vs : List V} (e : Rd H a (.lst vs) ∧ ¬ lv a ∨ ∃ (o : Obj) (its : Array Value) (n : Nat), K.lookup a = some o ∧ o.cls = .type "list" ∧ o.dict = none ∧ o.data = .seq its n ∧ its.size ≤ sizeLine ∧ Vals vs its.toList) : SqL K H a vs := by
  rcases e with ⟨e, _⟩ | e
  · exact .inl e
  · exact .inr e
/-- a value read as data -/
theorem DenX.dp (s : StoOk K Ts S mu hs H) {x : Xv} {v : V} {d : D} (h : DenX K (live S mu hs) mu H x v) (e : datOf S x = some d) : Dp K H v d := by
  cases x with
  | d a => cases e; exact DenD.dp _ _ h
  | r n =>
    obtain ⟨a, rfl, q⟩ := h
    cases z : S[n]? with
    | none => simp only [datOf, z] at e; cases e
    | some o =>
      cases o with
      | lst xs =>
        simp only [datOf, z] at e
        cases y : PB.allD xs with
        | none => rw [y] at e; cases e
        | some ds =>
          rw [y] at e; cases e
          obtain ⟨_, vs, e1, q1⟩ := s.ok n _ a z q
          exact .lst (.inl (.inl e1)) (DenL.dp _ _ (DenXs.allD q1 y))
      | rol xs =>
        simp only [datOf, z] at e
        cases y : PB.allD xs with
        | none => rw [y] at e; cases e
        | some ds =>
          rw [y] at e; cases e
          obtain ⟨_, vs, e1, q1⟩ := s.ok n _ a z q
          exact .lst (rol_sq e1) (DenL.dp _ _ (DenXs.allD q1 y))
      | dct kvs => simp only [datOf, z] at e; cases e
      | dead => simp only [datOf, z] at e; cases e
theorem isEmpty_vs {xs : List Xv} {vs : List V} (h : DenXs K lv mu H xs vs) : xs.isEmpty = vs.isEmpty := by
  have := Paired.length h
  cases xs <;> cases vs <;> simp_all
theorem isEmpty_ds {xs : List D} {vs : List V} (h : DenL K lv H xs vs) : xs.isEmpty = vs.isEmpty := by
  have := h.length
  cases xs <;> cases vs <;> simp_all
theorem DenX.tru (s : StoOk K Ts S mu hs H) {x : Xv} {v : V} {b : Bool} (h : DenX K (live S mu hs) mu H x v) (e : truX S x = some b) : TruV K v H b := by
  cases x with
  | d a =>
    cases a with
    | none => unfold DenX DenD at h; subst h; cases e; rfl
    | bool c => unfold DenX DenD at h; subst h; exact (Option.some.inj e).symm
    | int i => unfold DenX DenD at h; subst h; exact (Option.some.inj e).symm
    | str z =>
      unfold DenX DenD at h; subst h
      unfold truX truD at e
      dsimp only at e
      split at e
      · rename_i hz; cases e; exact ⟨hz, rfl⟩
      · cases e
    | tuple xs =>
      unfold DenX DenD at h
      obtain ⟨a, vs, rfl, q, _, r⟩ := h
      have e : (!xs.isEmpty) = b := Option.some.inj e
      exact .inr (.inl ⟨vs, q, by rw [← e, isEmpty_ds r]⟩)
    | list xs =>
      unfold DenX DenD at h
      obtain ⟨a, vs, rfl, q, _, _, r⟩ := h
      have e : (!xs.isEmpty) = b := Option.some.inj e
      exact .inl ⟨vs, .inl (.inl q), by rw [← e, isEmpty_ds r]⟩
    | dict _ => cases e
  | r n =>
    obtain ⟨a, rfl, q⟩ := h
    cases z : S[n]? with
    | none => simp only [truX, z] at e; cases e
    | some o =>
      have k := s.ok n _ a z q
      cases o with
      | lst xs =>
        simp only [truX, z] at e
        have e := Option.some.inj e
        obtain ⟨_, vs, e1, q1⟩ := k
        exact .inl ⟨vs, .inl (.inl e1), by rw [← e, isEmpty_vs q1]⟩
      | rol xs =>
        simp only [truX, z] at e
        have e := Option.some.inj e
        obtain ⟨_, vs, e1, q1⟩ := k
        exact .inl ⟨vs, rol_sq e1, by rw [← e, isEmpty_vs q1]⟩
      | dct xs =>
        simp only [truX, z] at e
        have e := Option.some.inj e
        obtain ⟨vs, e1, q1⟩ := k
        refine .inr (.inr ⟨vs, e1, ?_⟩)
        have := Paired.length q1
        rw [← e]
        cases xs <;> cases vs <;> simp_all
      | dead => simp only [truX, z] at e; cases e
end

section
variable {X : Cx} {K : PySem.W.Frag} {E : XW}
theorem tD_op {pa pb : Env0' → Sto → R Xv} {f : Xv → Xv → Sto → R Xv} {r : R2} {σ : L2.St} {H : Hp} {Q : VK}
    (hr : ∀ (x y : Xv) (S : Sto) (mu hs : List Addr) (H : Hp) (v u : V) (Q : VK), StoOk K E.ts S mu hs H → DenX K (live S mu hs) mu H x v → DenX K (live S mu hs) mu H y u →
      Post K E S mu hs H (fun z S' mu' H' => ∀ v, DenX K (live S' mu' hs) mu' H' z v → Q v H') (f x y S) → r v u H Q)
    (h : tD K E (fun ρ S => (pa ρ S).bind fun x S1 => (pb ρ S1).bind fun y S2 => f x y S2) σ H Q) : tOp r (tD K E pa) (tD K E pb) σ H Q := by
  obtain ⟨ρ, S, mu, hs, e, s, h⟩ := h
  refine ⟨ρ, S, mu, hs, e, s, h.bind.mono fun x S1 mu1 H1 g1 s1 q v hv => ?_⟩
  refine ⟨ρ, S1, mu1, hs, e.go g1, s1, q.2.2.bind.mono fun y S2 mu2 H2 g2 s2 q2 u hu => ?_⟩
  exact hr x y S2 mu2 hs H2 v u Q s2 (hv.go g2) hu q2.2.2
theorem tD_un {pa : Env0' → Sto → R Xv} {f : Xv → Sto → R Xv} {r : V → Hp → VK → Prop} {σ : L2.St} {H : Hp} {Q : VK}
    (hr : ∀ (x : Xv) (S : Sto) (mu hs : List Addr) (H : Hp) (v : V) (Q : VK), StoOk K E.ts S mu hs H → DenX K (live S mu hs) mu H x v →
      Post K E S mu hs H (fun z S' mu' H' => ∀ v, DenX K (live S' mu' hs) mu' H' z v → Q v H') (f x S) → r v H Q)
    (h : tD K E (fun ρ S => (pa ρ S).bind fun x S1 => f x S1) σ H Q) : tUn r (tD K E pa) σ H Q := by
  obtain ⟨ρ, S, mu, hs, e, s, h⟩ := h
  refine ⟨ρ, S, mu, hs, e, s, h.bind.mono fun x S1 mu1 H1 g1 s1 q v hv => ?_⟩
  exact hr x S1 mu1 hs H1 v Q s1 hv q.2.2
/-- a value that needs nothing -/
theorem post_d {S : Sto} {mu hs : List Addr} {H : Hp} {Q : VK} {d : D} {v : V} (s : StoOk K E.ts S mu hs H) (h : Post K E S mu hs H (fun z S' mu' H' => ∀ v, DenX K (live S' mu' hs) mu' H' z v → Q v H') (.ok (.d d) S)) (hv : DenD K (live S mu hs) H d v) : Q v H :=
  h.here s v hv
/-- a new object that is data -/
theorem post_new {S : Sto} {mu hs : List Addr} {H : Hp} {Q : VK} {d : D} {o : HO} (s : StoOk K E.ts S mu hs H) (h : Post K E S mu hs H (fun z S' mu' H' => ∀ v, DenX K (live S' mu' hs) mu' H' z v → Q v H') (.ok (.d d) S)) {p : Addr} (hp : H p = none)
    (hv : DenD K (live S mu hs) (upd H p o) d (.ref p)) : Q (.ref p) (upd H p o) :=
  h mu (upd H p o) (Go.laid s hp o) (s.laid hp o) _ hv
end

def pVar (i : Nat) : Env0' → Sto → R Xv := fun ρ S => match ρ[i]? with
  | some (some x) => .ok x S
  | _ => .bad
def pCst (d : D) : Env0' → Sto → R Xv := fun _ S => .ok (.d d) S
section
variable {X : Cx} {E : XW}
theorem e_var {i : Nat} {e : Expr} (h : PE X e (tVar i)) : PE X e (tD X.K E (pVar i)) := PE.imp h fun σ H Q h => by
  obtain ⟨ρ, S, mu, hs, en, s, h⟩ := h
  unfold pVar at h
  split at h
  · rename_i x z
    obtain ⟨v, e1, q⟩ := en.2 i x z
    exact ⟨v, e1, h.here s v q⟩
  · exact h.elim
theorem e_cst {d : D} {v : V} {e : Expr} (h : PE X e (tC v)) (hv : ∀ lv H, DenD X.K lv H d v) : PE X e (tD X.K E (pCst d)) := PE.imp h fun σ H Q h => by
  obtain ⟨ρ, S, mu, hs, en, s, h⟩ := h
  exact h.here s v (hv _ _)
end

/-- i ≤ c; -c ≤ i: by looks that stand still at an unknown i -/
def iLe (i : Int) (c : Nat) : Bool := match i with
  | .ofNat n => Nat.ble n c
  | .negSucc _ => true
def iGe (i : Int) (c : Nat) : Bool := match i with
  | .ofNat _ => true
  | .negSucc n => Nat.ble (n + 1) c
theorem iLe_iff {i : Int} {c : Nat} : iLe i c = true ↔ i ≤ c := by
  cases i with
  | ofNat n =>
    show Nat.ble n c = true ↔ _
    rw [Nat.ble_eq]
    exact Int.ofNat_le.symm
  | negSucc n => exact ⟨fun _ => by omega, fun _ => rfl⟩
theorem iGe_iff {i : Int} {c : Nat} : iGe i c = true ↔ -(c : Int) ≤ i := by
  cases i with
  | ofNat n => exact ⟨fun _ => by have : (0 : Int) ≤ Int.ofNat n := Int.natCast_nonneg n; omega, fun _ => rfl⟩
  | negSucc n =>
    show Nat.ble (n + 1) c = true ↔ _
    rw [Nat.ble_eq, Int.negSucc_eq]
    omega
def pAdd : Xv → Xv → Sto → R Xv
  | .d (.int i), .d (.int j), S => .ok (.d (.int (i + j))) S
  | .d (.tuple xs), .d (.tuple ys), S => if xs.length + ys.length ≤ sizeLine then .ok (.d (.tuple (xs ++ ys))) S else .bad
  | .d (.list xs), .d (.list ys), S => if xs.length + ys.length ≤ sizeLine then .ok (.d (.list (xs ++ ys))) S else .bad
  | .d (.str x), .d (.str y), S => if x.length + y.length ≤ sizeLine then .ok (.d (.str (x ++ y))) S else .bad
  | _, _, _ => .bad
def pInt (C : Int → Int → Bool) (g : Int → Int → Int) : Xv → Xv → Sto → R Xv
  | .d (.int i), .d (.int j), S => if C i j then .ok (.d (.int (g i j))) S else .bad
  | _, _, _ => .bad
def cMul : Int → Int → Bool := fun i j => (iGe i (2 ^ 64 - 1) && iLe i (2 ^ 64 - 1)) || (iGe j (2 ^ 64 - 1) && iLe j (2 ^ 64 - 1))
def pMul : Xv → Xv → Sto → R Xv
  | .d (.list xs), .d (.int k), S => if iGe k (2 ^ 62) && iLe k (2 ^ 62) && decide (xs.length * k.toNat ≤ sizeLine) then .ok (.d (.list (List.replicate k.toNat xs).flatten)) S else .bad
  | .d (.tuple xs), .d (.int k), S => if decide (xs ≠ []) && decide (2 ≤ k) && decide (k ≤ 1000) && decide (xs.length ≤ 1000) then .ok (.d (.tuple (List.replicate k.toNat xs).flatten)) S else .bad
  | .d (.int i), .d (.int j), S => if cMul i j then .ok (.d (.int (i * j))) S else .bad
  | _, _, _ => .bad
def cAny : Int → Int → Bool := fun _ _ => true
def cDiv : Int → Int → Bool := fun i j => decide (0 < j) && iLe j 1073741823
def cMod : Int → Int → Bool := fun _ j => decide (0 < j)
def cPow : Int → Int → Bool := fun i j => decide (0 ≤ j) && iLe j 1000000 && Nat.ble (i.natAbs + 1) (2 ^ 64)
def cShr : Int → Int → Bool := fun _ j => decide (0 ≤ j)
inductive BOp | add | sub | mul | fdiv | mod | pow | shl | shr | band | bor | bxor
  deriving DecidableEq
def BOp.op : BOp → Operator
  | .add => .Add | .sub => .Sub | .mul => .Mult | .fdiv => .FloorDiv | .mod => .Mod | .pow => .Pow | .shl => .LShift | .shr => .RShift | .band => .BitAnd | .bor => .BitOr | .bxor => .BitXor
def pBin : BOp → Xv → Xv → Sto → R Xv
  | .add => pAdd
  | .sub => pInt cAny (· - ·)
  | .mul => pMul
  | .fdiv => pInt cDiv (· / ·)
  | .mod => pInt cMod (· % ·)
  | .pow => pInt cPow fun i j => i ^ j.toNat
  | .shl => pInt cPow fun i j => i * 2 ^ j.toNat
  | .shr => pInt cShr fun i j => i / 2 ^ j.toNat
  | .band => pInt cAny Builtin.bitAnd
  | .bor => pInt cAny Builtin.bitOr
  | .bxor => pInt cAny Builtin.bitXor
section
variable {X : Cx} {E : XW}
theorem den_int {K : PySem.W.Frag} {lv : Addr → Prop} {mu : List Addr} {H : Hp} {i : Int} {v : V} (h : DenX K lv mu H (.d (.int i)) v) : v = .int i := by
  unfold DenX DenD at h; exact h
theorem den_tuple {K : PySem.W.Frag} {lv : Addr → Prop} {mu : List Addr} {H : Hp} {xs : List D} {v : V} (h : DenX K lv mu H (.d (.tuple xs)) v) : ∃ a vs, v = .ref a ∧ SqT K H a vs ∧ xs.length ≤ sizeLine ∧ DenL K lv H xs vs := by
  unfold DenX DenD at h; exact h
theorem den_list {K : PySem.W.Frag} {lv : Addr → Prop} {mu : List Addr} {H : Hp} {xs : List D} {v : V} (h : DenX K lv mu H (.d (.list xs)) v) : ∃ a vs, v = .ref a ∧ H a = some (.lst vs) ∧ ¬ lv a ∧ xs.length ≤ sizeLine ∧ DenL K lv H xs vs := by
  unfold DenX DenD at h; exact h
theorem int_den {K : PySem.W.Frag} {lv : Addr → Prop} {H : Hp} {i : Int} : DenD K lv H (.int i) (.int i) := by unfold DenD; rfl
theorem bool_den {K : PySem.W.Frag} {lv : Addr → Prop} {H : Hp} {b : Bool} : DenD K lv H (.bool b) (.bl b) := by unfold DenD; rfl
theorem str_den {K : PySem.W.Frag} {lv : Addr → Prop} {H : Hp} {x : Str} : DenD K lv H (.str x) (.str x) := by unfold DenD; rfl
theorem none_den {K : PySem.W.Frag} {lv : Addr → Prop} {H : Hp} : DenD K lv H .none .non := by unfold DenD; rfl
theorem op_pInt {op : Operator} {C : Int → Int → Bool} {C' : Int → Int → Prop} {g : Int → Int → Int} {a b : Expr} {pos : Pos} {pa pb : Env0' → Sto → R Xv} (ho : OpR X (binaryOp op) (rI C' fun i j => .int (g i j))) (hC : ∀ i j, C i j = true → C' i j)
    (ha : PE X a (tD X.K E pa)) (hb : PE X b (tD X.K E pb)) : PE X (.BinOp a op b pos) (tD X.K E fun ρ S => (pa ρ S).bind fun x S1 => (pb ρ S1).bind fun y S2 => pInt C g x y S2) := by
  refine PE.imp (pe_op ho ha hb) fun σ H Q h => tD_op (fun x y S mu hs H v u Q s hx hy h => ?_) h
  unfold pInt at h
  split at h
  · split at h
    · rename_i hc
      exact ⟨_, _, den_int hx, den_int hy, hC _ _ hc, post_d s h int_den⟩
    · exact h.elim
  · exact h.elim
theorem op_pInt0 {op : Operator} {g : Int → Int → Int} {a b : Expr} {pos : Pos} {pa pb : Env0' → Sto → R Xv} (ho : OpR X (binaryOp op) (rI0 fun i j => .int (g i j)))
    (ha : PE X a (tD X.K E pa)) (hb : PE X b (tD X.K E pb)) : PE X (.BinOp a op b pos) (tD X.K E fun ρ S => (pa ρ S).bind fun x S1 => (pb ρ S1).bind fun y S2 => pInt cAny g x y S2) := by
  refine PE.imp (pe_op ho ha hb) fun σ H Q h => tD_op (fun x y S mu hs H v u Q s hx hy h => ?_) h
  unfold pInt at h
  split at h
  · exact ⟨_, _, den_int hx, den_int hy, post_d s h int_den⟩
  · exact h.elim
theorem op_pAdd {a b : Expr} {pos : Pos} {pa pb : Env0' → Sto → R Xv} (ha : PE X a (tD X.K E pa)) (hb : PE X b (tD X.K E pb)) :
    PE X (.BinOp a .Add b pos) (tD X.K E fun ρ S => (pa ρ S).bind fun x S1 => (pb ρ S1).bind fun y S2 => pAdd x y S2) := by
  refine PE.imp (pe_op (OpR.or op_add (OpR.or op_catA (OpR.or op_cat op_add_str))) ha hb) fun σ H Q h => tD_op (fun x y S mu hs H v u Q s hx hy h => ?_) h
  cases x with
  | r n => exact h.elim
  | d x =>
  cases y with
  | r n => cases x <;> exact h.elim
  | d y =>
  cases x with
  | none => exact h.elim
  | bool _ => exact h.elim
  | dict _ => exact h.elim
  | int i =>
    cases y with
    | int j => exact .inl ⟨_, _, den_int hx, den_int hy, post_d s h int_den⟩
    | _ => exact h.elim
  | str x1 =>
    cases y with
    | str y1 =>
      simp only [pAdd] at h
      split at h
      · rename_i hl
        have e1 : v = .str x1 := by unfold DenX DenD at hx; exact hx
        have e2 : u = .str y1 := by unfold DenX DenD at hy; exact hy
        exact .inr (.inr (.inr ⟨x1, y1, e1, e2, hl, post_d s h str_den⟩))
      · exact h.elim
    | _ => exact h.elim
  | tuple xs =>
    cases y with
    | tuple ys =>
      simp only [pAdd] at h
      split at h
      · rename_i hl
        obtain ⟨a, vs, rfl, q1, l1, r1⟩ := den_tuple hx
        obtain ⟨b, us, rfl, q2, l2, r2⟩ := den_tuple hy
        have e1 := r1.length
        have e2 := r2.length
        refine .inr (.inl ⟨a, b, vs, us, rfl, rfl, q1, q2, by omega, fun e => ?_, fun e e' => ?_, fun e e' p hp => ?_⟩)
        · subst e
          have : xs = [] := List.length_eq_zero_iff.mp e1
          subst this
          refine post_d s h ?_
          unfold DenD
          exact ⟨b, us, rfl, q2, l2, r2⟩
        · subst e'
          have : ys = [] := List.length_eq_zero_iff.mp e2
          subst this
          refine post_d s h ?_
          rw [List.append_nil]
          unfold DenD
          exact ⟨a, vs, rfl, q1, l1, r1⟩
        · refine post_new s h hp ?_
          have k := (Go.laid s hp (.tup (vs ++ us))).keep (K := X.K)
          unfold DenD
          exact ⟨p, vs ++ us, rfl, .inl (.inl upd_same), by simpa using hl, DenL.keep k _ _ (r1.append r2)⟩
      · exact h.elim
    | _ => exact h.elim
  | list xs =>
    cases y with
    | list ys =>
      simp only [pAdd] at h
      split at h
      · rename_i hl
        obtain ⟨a, vs, rfl, q1, n1, l1, r1⟩ := den_list hx
        obtain ⟨b, us, rfl, q2, n2, l2, r2⟩ := den_list hy
        have e1 := r1.length
        have e2 := r2.length
        refine .inr (.inr (.inl ⟨a, b, vs, us, rfl, rfl, q1, q2, by omega, fun p hp => post_new s h hp ?_⟩))
        have k := (Go.laid s hp (.lst (vs ++ us))).keep (K := X.K)
        unfold DenD
        exact ⟨p, vs ++ us, rfl, upd_same, s.fresh hp, by simpa using hl, DenL.keep k _ _ (r1.append r2)⟩
      · exact h.elim
    | _ => exact h.elim
theorem cMul_iff {i j : Int} : cMul i j = true ↔ ((-(2 ^ 64) < i ∧ i < 2 ^ 64) ∨ (-(2 ^ 64) < j ∧ j < 2 ^ 64)) := by
  unfold cMul
  rw [Bool.or_eq_true, Bool.and_eq_true, Bool.and_eq_true, iLe_iff, iGe_iff, iLe_iff, iGe_iff]
  omega
theorem cMul_ok {i j : Int} (h : cMul i j = true) : CMul i j := cMul_iff.mp h
theorem cDiv_iff {i j : Int} : cDiv i j = true ↔ (0 < j ∧ j < 1073741824) := by
  unfold cDiv
  rw [Bool.and_eq_true, iLe_iff, decide_eq_true_eq]
  omega
theorem cDiv_ok {i j : Int} (h : cDiv i j = true) : CDiv i j := cDiv_iff.mp h
theorem cPow_iff {i j : Int} : cPow i j = true ↔ (0 ≤ j ∧ j ≤ 1000000 ∧ i.natAbs < 2 ^ 64) := by
  unfold cPow
  rw [Bool.and_eq_true, Bool.and_eq_true, iLe_iff, decide_eq_true_eq, Nat.ble_eq]
  omega
theorem cPow_ok {i j : Int} (h : cPow i j = true) : CPow i j := cPow_iff.mp h
theorem den_rep {K : PySem.W.Frag} {lv : Addr → Prop} {H : Hp} {ds : List D} {vs : List V} (h : DenL K lv H ds vs) : ∀ k : Nat, DenL K lv H (List.replicate k ds).flatten (List.replicate k vs).flatten
  | 0 => by unfold DenL; rfl
  | k + 1 => by
    rw [List.replicate_succ, List.replicate_succ, List.flatten_cons, List.flatten_cons]
    exact h.append (den_rep h k)
theorem len_rep {α : Type} (xs : List α) : ∀ k : Nat, (List.replicate k xs).flatten.length = k * xs.length
  | 0 => by simp
  | k + 1 => by rw [List.replicate_succ, List.flatten_cons, List.length_append, len_rep xs k, Nat.succ_mul, Nat.add_comm]
theorem op_pMul {a b : Expr} {pos : Pos} {pa pb : Env0' → Sto → R Xv} (ha : PE X a (tD X.K E pa)) (hb : PE X b (tD X.K E pb)) :
    PE X (.BinOp a .Mult b pos) (tD X.K E fun ρ S => (pa ρ S).bind fun x S1 => (pb ρ S1).bind fun y S2 => pMul x y S2) := by
  refine PE.imp (pe_op (OpR.or op_mul (OpR.or op_rep op_repT)) ha hb) fun σ H Q h => tD_op (fun x y S mu hs H v u Q s hx hy h => ?_) h
  unfold pMul at h
  split at h
  · rename_i xs k
    split at h
    · rename_i hc
      simp only [Bool.and_eq_true, decide_eq_true_eq, iLe_iff, iGe_iff] at hc
      obtain ⟨⟨c1, c2⟩, c3⟩ := hc
      obtain ⟨a, vs, rfl, q1, n1, l1, r1⟩ := den_list hx
      have e1 := r1.length
      refine .inr (.inl ⟨a, k, vs, rfl, den_int hy, q1, by omega, by omega, by rw [← e1]; exact c3, fun p hp => post_new s h hp ?_⟩)
      have g := (Go.laid s hp (.lst (List.replicate k.toNat vs).flatten)).keep (K := X.K)
      unfold DenD
      exact ⟨p, _, rfl, upd_same, s.fresh hp, by rw [len_rep, Nat.mul_comm]; exact c3, DenL.keep g _ _ (den_rep r1 _)⟩
    · exact h.elim
  · rename_i xs k
    split at h
    · rename_i hc
      simp only [Bool.and_eq_true, decide_eq_true_eq] at hc
      obtain ⟨⟨⟨c1, c2⟩, c3⟩, c4⟩ := hc
      obtain ⟨a, vs, rfl, q1, l1, r1⟩ := den_tuple hx
      have e1 := r1.length
      refine .inr (.inr ⟨a, k, vs, rfl, den_int hy, q1, fun e => c1 ?_, c2, c3, by omega, fun p hp => post_new s h hp ?_⟩)
      · subst e
        exact List.length_eq_zero_iff.mp e1
      have g := (Go.laid s hp (.tup (List.replicate k.toNat vs).flatten)).keep (K := X.K)
      unfold DenD
      refine ⟨p, _, rfl, .inl (.inl upd_same), ?_, DenL.keep g _ _ (den_rep r1 _)⟩
      rw [len_rep, sizeLine_eq]
      have : k.toNat * xs.length ≤ 1000 * 1000 := Nat.mul_le_mul (by omega) c4
      omega
    · exact h.elim
  · split at h
    · rename_i hc
      exact .inl ⟨_, _, den_int hx, den_int hy, cMul_ok hc, post_d s h int_den⟩
    · exact h.elim
  · exact h.elim
theorem e_bin {op : BOp} {a b : Expr} {pos : Pos} {pa pb : Env0' → Sto → R Xv} (ha : PE X a (tD X.K E pa)) (hb : PE X b (tD X.K E pb)) :
    PE X (.BinOp a op.op b pos) (tD X.K E fun ρ S => (pa ρ S).bind fun x S1 => (pb ρ S1).bind fun y S2 => pBin op x y S2) := by
  cases op with
  | add => exact op_pAdd ha hb
  | sub => exact op_pInt0 op_sub ha hb
  | mul => exact op_pMul ha hb
  | fdiv => exact op_pInt op_fdiv (fun _ _ => cDiv_ok) ha hb
  | mod => exact op_pInt op_mod (fun i j h => of_decide_eq_true h) ha hb
  | pow => exact op_pInt op_pow (fun _ _ => cPow_ok) ha hb
  | shl => exact op_pInt op_shl (fun _ _ => cPow_ok) ha hb
  | shr => exact op_pInt op_shr (fun i j h => of_decide_eq_true h) ha hb
  | band => exact op_pInt0 op_and ha hb
  | bor => exact op_pInt0 op_or ha hb
  | bxor => exact op_pInt0 op_xor ha hb
end
end PB

namespace PBo
open PySem PySem.SeqAt PySem.Spec PyProof.Rows
variable {Ts : List Addr}
open PySem.AutoSeq1 (wpAny_loadPart')
open PySem.MeetsSeq PySem.MeetsSeq2 PySem.MeetsSeq3
open Ob

/-- what the lengths say -/
def zOf (op : CmpOp) (m n : Nat) : Bool := match op with
  | .Gt => decide (n < m)
  | .GtE => decide (n ≤ m)
  | .Lt => decide (m < n)
  | _ => decide (m ≤ n)
/-- which of the four -/
inductive Ord | lt | le | gt | ge
  deriving DecidableEq
def Ord.op : Ord → CmpOp
  | .lt => .Lt | .le => .LtE | .gt => .Gt | .ge => .GtE
def ordInt : Ord → Int → Int → Bool
  | .lt, i, j => decide (i < j) | .le, i, j => decide (i ≤ j) | .gt, i, j => decide (j < i) | .ge, i, j => decide (j ≤ i)
def ordNat : Ord → Nat → Nat → Bool
  | .lt, i, j => decide (i < j) | .le, i, j => decide (i ≤ j) | .gt, i, j => decide (j < i) | .ge, i, j => decide (j ≤ i)
def ordStr : Ord → Str → Str → Bool
  | .lt, i, j => decide (i.cps.toList < j.cps.toList) | .le, i, j => !decide (j.cps.toList < i.cps.toList) | .gt, i, j => decide (j.cps.toList < i.cps.toList) | .ge, i, j => !decide (i.cps.toList < j.cps.toList)

theorem tuple_gtAt (l b : Addr) (items items2 : Array Value) (n n2 : Nat) (dd dd2 : Option Addr) (sl sl2 : Array (Option Value)) (e r : Nat → Bool) :
    Meets (Builtin.«tuple.__gt__» ⟨[.ref l, .ref b], []⟩)
      (fun A R s => s.heap.get? l = some { cls := .type "tuple", dict := dd, data := .seq items n, slots := sl } ∧ s.heap.get? b = some { cls := .type "tuple", dict := dd2, data := .seq items2 n2, slots := sl2 } ∧
        (∀ j (h1 : j < items.size) (h2 : j < items2.size), EqAt A.in1 s items[j] items2[j] (e j)) ∧
        (∀ j (h1 : j < items.size) (h2 : j < items2.size), e j = false → RcOp .Gt A.in1 s items[j] items2[j] (r j)) ∧
        R (.ok (.ret (.bool (lexAt e r (decide (items2.size < items.size)) 0 (min items.size items2.size))))) s) :=
  .of_wp fun prog w A R s h => by
    obtain ⟨hp, g, d, tk, os⟩ := s; obtain ⟨hl, hb, he, hr, h⟩ := h
    have f2 := AutoSeq1.sub_tuple_tuple
    have hZ : (items.toList.zip items2.toList).length = min items.size items2.size := by simp
    wp_walk using wpAny_loadPart' hl, wpAny_loadPart' hb, wpAny_forIn_list _ (fun rest b s' => b.1 = none ∧ s' = ⟨hp, g, d, tk, os⟩ ∧ ∃ i, rest = (items.toList.zip items2.toList).drop i ∧
      R (.ok (.ret (.bool (lexAt e r (decide (items2.size < items.size)) i (min items.size items2.size - i))))) ⟨hp, g, d, tk, os⟩) _
    case turn =>
      rintro ⟨y, x⟩ rest b s' ⟨hb', rfl, i, hz, hR⟩
      have hlt : i < (items.toList.zip items2.toList).length := by
        rcases Nat.lt_or_ge i (items.toList.zip items2.toList).length with h' | h'
        · exact h'
        · rw [List.drop_of_length_le h'] at hz; cases hz
      have hm : i < min items.size items2.size := hZ ▸ hlt
      have h1 : i < items.size := Nat.lt_of_lt_of_le hm (Nat.min_le_left _ _)
      have h2 : i < items2.size := Nat.lt_of_lt_of_le hm (Nat.min_le_right _ _)
      rw [List.drop_eq_getElem_cons hlt] at hz
      injection hz with hyx hrest
      have hy : y = items[i] := by have := congrArg Prod.fst hyx; simpa using this
      have hx : x = items2[i] := by have := congrArg Prod.snd hyx; simpa using this
      subst hy hx
      rw [show min items.size items2.size - i = (min items.size items2.size - (i + 1)) + 1 by omega, lexAt_succ] at hR
      refine wpAny_bind (he i h1 h2 prog w _ _ ?_)
      cases hei : e i with
      | true =>
        rw [hei, if_pos rfl] at hR
        wp_walk
        exact ⟨rfl, rfl, i + 1, hrest, hR⟩
      | false =>
        rw [hei, if_neg Bool.false_ne_true] at hR
        have hri := hr i h1 h2 hei prog w
        wp_walk using hri
        exact ⟨_, rfl, by simpa using hR⟩
    case fin =>
      rintro ⟨b1, b2⟩ s' ⟨hb', rfl, i, hz, hR⟩
      simp only at hb'
      subst hb'
      have hge : min items.size items2.size ≤ i := by
        rcases Nat.lt_or_ge i (items.toList.zip items2.toList).length with h' | h'
        · rw [List.drop_eq_getElem_cons h'] at hz; cases hz
        · exact hZ ▸ h'
      rw [Nat.sub_eq_zero_of_le hge, lexAt_zero] at hR
      wp_walk
      exact ⟨_, rfl, by simpa [Builtin.Tuple.tupleCompareSizes] using hR⟩
    case h =>
      exact ⟨rfl, rfl, 0, rfl, by simpa using h⟩
theorem tuple_geAt (l b : Addr) (items items2 : Array Value) (n n2 : Nat) (dd dd2 : Option Addr) (sl sl2 : Array (Option Value)) (e r : Nat → Bool) :
    Meets (Builtin.«tuple.__ge__» ⟨[.ref l, .ref b], []⟩)
      (fun A R s => s.heap.get? l = some { cls := .type "tuple", dict := dd, data := .seq items n, slots := sl } ∧ s.heap.get? b = some { cls := .type "tuple", dict := dd2, data := .seq items2 n2, slots := sl2 } ∧
        (∀ j (h1 : j < items.size) (h2 : j < items2.size), EqAt A.in1 s items[j] items2[j] (e j)) ∧
        (∀ j (h1 : j < items.size) (h2 : j < items2.size), e j = false → RcOp .GtE A.in1 s items[j] items2[j] (r j)) ∧
        R (.ok (.ret (.bool (lexAt e r (decide (items2.size ≤ items.size)) 0 (min items.size items2.size))))) s) :=
  .of_wp fun prog w A R s h => by
    obtain ⟨hp, g, d, tk, os⟩ := s; obtain ⟨hl, hb, he, hr, h⟩ := h
    have f2 := AutoSeq1.sub_tuple_tuple
    have hZ : (items.toList.zip items2.toList).length = min items.size items2.size := by simp
    wp_walk using wpAny_loadPart' hl, wpAny_loadPart' hb, wpAny_forIn_list _ (fun rest b s' => b.1 = none ∧ s' = ⟨hp, g, d, tk, os⟩ ∧ ∃ i, rest = (items.toList.zip items2.toList).drop i ∧
      R (.ok (.ret (.bool (lexAt e r (decide (items2.size ≤ items.size)) i (min items.size items2.size - i))))) ⟨hp, g, d, tk, os⟩) _
    case turn =>
      rintro ⟨y, x⟩ rest b s' ⟨hb', rfl, i, hz, hR⟩
      have hlt : i < (items.toList.zip items2.toList).length := by
        rcases Nat.lt_or_ge i (items.toList.zip items2.toList).length with h' | h'
        · exact h'
        · rw [List.drop_of_length_le h'] at hz; cases hz
      have hm : i < min items.size items2.size := hZ ▸ hlt
      have h1 : i < items.size := Nat.lt_of_lt_of_le hm (Nat.min_le_left _ _)
      have h2 : i < items2.size := Nat.lt_of_lt_of_le hm (Nat.min_le_right _ _)
      rw [List.drop_eq_getElem_cons hlt] at hz
      injection hz with hyx hrest
      have hy : y = items[i] := by have := congrArg Prod.fst hyx; simpa using this
      have hx : x = items2[i] := by have := congrArg Prod.snd hyx; simpa using this
      subst hy hx
      rw [show min items.size items2.size - i = (min items.size items2.size - (i + 1)) + 1 by omega, lexAt_succ] at hR
      refine wpAny_bind (he i h1 h2 prog w _ _ ?_)
      cases hei : e i with
      | true =>
        rw [hei, if_pos rfl] at hR
        wp_walk
        exact ⟨rfl, rfl, i + 1, hrest, hR⟩
      | false =>
        rw [hei, if_neg Bool.false_ne_true] at hR
        have hri := hr i h1 h2 hei prog w
        wp_walk using hri
        exact ⟨_, rfl, by simpa using hR⟩
    case fin =>
      rintro ⟨b1, b2⟩ s' ⟨hb', rfl, i, hz, hR⟩
      simp only at hb'
      subst hb'
      have hge : min items.size items2.size ≤ i := by
        rcases Nat.lt_or_ge i (items.toList.zip items2.toList).length with h' | h'
        · rw [List.drop_eq_getElem_cons h'] at hz; cases hz
        · exact hZ ▸ h'
      rw [Nat.sub_eq_zero_of_le hge, lexAt_zero] at hR
      wp_walk
      exact ⟨_, rfl, by simpa [Builtin.Tuple.tupleCompareSizes] using hR⟩
    case h =>
      exact ⟨rfl, rfl, 0, rfl, by simpa using h⟩

theorem tuples_gt {A : Around} {s : Shared} {l b : Addr} {items items2 : Array Value} {e r : Nat → Bool} (hl : s.heap.IsTuple l items) (hb : s.heap.IsTuple b items2) (hu : A.units < cLine)
    (he : ∀ j (h1 : j < items.size) (h2 : j < items2.size), EqAt A.in1 s items[j] items2[j] (e j)) (hr : ∀ j (h1 : j < items.size) (h2 : j < items2.size), e j = false → RcOp .Gt A.in1 s items[j] items2[j] (r j)) :
    RcOp .Gt A s (.ref l) (.ref b) (lexAt e r (decide (items2.size < items.size)) 0 (min items.size items2.size)) := fun prog w E Q h => by
  obtain ⟨⟨cls, dd, data, sl⟩, ho, hc, n, hd⟩ := id hl
  obtain ⟨⟨cls2, dd2, data2, sl2⟩, ho2, hc2, n2, hd2⟩ := id hb
  simp only at hc hd hc2 hd2
  subst hc hd hc2 hd2
  exact richCompare_meets_room (op := .Gt) ⟨_, ho, rfl⟩ ⟨_, ho2, rfl⟩ F.slot_tuple_gt F.entry_tuple_gt (F.args_tuple_gt_2 _ _) (tuple_gtAt l b items items2 n n2 dd dd2 sl sl2 e r) ⟨ho, ho2, he, hr, ⟨(fun x => nomatch x), h⟩⟩ hu
theorem tuples_ge {A : Around} {s : Shared} {l b : Addr} {items items2 : Array Value} {e r : Nat → Bool} (hl : s.heap.IsTuple l items) (hb : s.heap.IsTuple b items2) (hu : A.units < cLine)
    (he : ∀ j (h1 : j < items.size) (h2 : j < items2.size), EqAt A.in1 s items[j] items2[j] (e j)) (hr : ∀ j (h1 : j < items.size) (h2 : j < items2.size), e j = false → RcOp .GtE A.in1 s items[j] items2[j] (r j)) :
    RcOp .GtE A s (.ref l) (.ref b) (lexAt e r (decide (items2.size ≤ items.size)) 0 (min items.size items2.size)) := fun prog w E Q h => by
  obtain ⟨⟨cls, dd, data, sl⟩, ho, hc, n, hd⟩ := id hl
  obtain ⟨⟨cls2, dd2, data2, sl2⟩, ho2, hc2, n2, hd2⟩ := id hb
  simp only at hc hd hc2 hd2
  subst hc hd hc2 hd2
  exact richCompare_meets_room (op := .GtE) ⟨_, ho, rfl⟩ ⟨_, ho2, rfl⟩ F.slot_tuple_ge F.entry_tuple_ge (F.args_tuple_ge_2 _ _) (tuple_geAt l b items items2 n n2 dd dd2 sl sl2 e r) ⟨ho, ho2, he, hr, ⟨(fun x => nomatch x), h⟩⟩ hu
theorem tuples_ord (k : Ord) {A : Around} {s : Shared} {l b : Addr} {items items2 : Array Value} {e r : Nat → Bool} (hl : s.heap.IsTuple l items) (hb : s.heap.IsTuple b items2) (hu : A.units < cLine)
    (he : ∀ j (h1 : j < items.size) (h2 : j < items2.size), EqAt A.in1 s items[j] items2[j] (e j)) (hr : ∀ j (h1 : j < items.size) (h2 : j < items2.size), e j = false → RcOp k.op A.in1 s items[j] items2[j] (r j)) :
    RcOp k.op A s (.ref l) (.ref b) (lexAt e r (ordNat k items.size items2.size) 0 (min items.size items2.size)) := by
  cases k with
  | lt => exact RcOp.tuples_lt hl hb hu he hr
  | le => exact RcOp.tuples_le hl hb hu he hr
  | gt => exact tuples_gt hl hb hu he hr
  | ge => exact tuples_ge hl hb hu he hr

mutual
/-- x op y; none: not of kinds that are compared here -/
def ordD (k : Ord) : PyData → PyData → Option Bool
  | .int i, .int j => some (ordInt k i j)
  | .str i, .str j => some (ordStr k i j)
  | .tuple xs, .tuple ys => ordL k xs ys
  | _, _ => none
def ordL (k : Ord) : List PyData → List PyData → Option Bool
  | [], [] => some (ordNat k 0 0)
  | [], _ :: _ => some (ordNat k 0 1)
  | _ :: _, [] => some (ordNat k 1 0)
  | x :: xs, y :: ys => match ordL k xs ys with
    | none => none
    | some b => if PyData.eqv x y = true then some b else ordD k x y
end
theorem rc_int (k : Ord) {A : Around} {s : Shared} (a b : Int) (t u : Tok) : RcOp k.op A s (.int a t) (.int b u) (ordInt k a b) := by
  cases k with
  | lt => exact RcOp.lt_int a b t u
  | le => exact RcOp.le_int a b t u
  | gt => exact RcOp.gt_int a b t u
  | ge => exact RcOp.ge_int a b t u
theorem rc_str (k : Ord) {A : Around} {s : Shared} (a b : Str) (t u : Tok) : RcOp k.op A s (.str a t) (.str b u) (ordStr k a b) := by
  intro prog w E Q h
  cases k with
  | lt => exact PyProof.Rows.lt_str h
  | le => exact PySem.P.le_str h
  | gt => exact PySem.P.gt_str h
  | ge => exact PySem.P.ge_str h
theorem ordNat_succ (k : Ord) (m n : Nat) : ordNat k (m + 1) (n + 1) = ordNat k m n := by
  cases k <;> simp [ordNat]
theorem ordNat_0s (k : Ord) (n : Nat) : ordNat k 0 (n + 1) = ordNat k 0 1 := by
  cases k <;> simp [ordNat]
theorem ordNat_s0 (k : Ord) (n : Nat) : ordNat k (n + 1) 0 = ordNat k 1 0 := by
  cases k <;> simp [ordNat]
theorem lexAt_shift {e r : Nat → Bool} {z : Bool} : ∀ (n i : Nat), lexAt e r z (i + 1) n = lexAt (fun j => e (j + 1)) (fun j => r (j + 1)) z i n
  | 0, _ => rfl
  | n + 1, i => by
    rw [lexAt_succ, lexAt_succ, lexAt_shift n (i + 1)]
/-- the lists' order is lexAt of their parts' -/
theorem ordL_lexAt (k : Ord) : ∀ (xs ys : List PyData) (b : Bool), ordL k xs ys = some b →
    ∃ r : Nat → Bool, b = lexAt (fun j => PyData.eqv (xs.getD j .none) (ys.getD j .none)) r (ordNat k xs.length ys.length) 0 (min xs.length ys.length) ∧
      ∀ j, j < xs.length → j < ys.length → PyData.eqv (xs.getD j .none) (ys.getD j .none) = false → ordD k (xs.getD j .none) (ys.getD j .none) = some (r j)
  | [], [], b, h => by unfold ordL at h; cases h; exact ⟨fun _ => false, rfl, fun j h => absurd h (by simp)⟩
  | [], y :: ys, b, h => by unfold ordL at h; cases h; exact ⟨fun _ => false, by rw [List.length_cons, List.length_nil, ordNat_0s k ys.length, Nat.zero_min, lexAt_zero], fun j h => absurd h (by simp)⟩
  | x :: xs, [], b, h => by unfold ordL at h; cases h; exact ⟨fun _ => false, by rw [List.length_cons, List.length_nil, ordNat_s0 k xs.length, Nat.min_zero, lexAt_zero], fun j _ h => absurd h (by simp)⟩
  | x :: xs, y :: ys, b, h => by
    unfold ordL at h
    cases hb0 : ordL k xs ys with
    | none => rw [hb0] at h; cases h
    | some b0 =>
      rw [hb0] at h
      dsimp only at h
      obtain ⟨r, e, q⟩ := ordL_lexAt k xs ys b0 hb0
      by_cases hxy : PyData.eqv x y = true
      · rw [if_pos hxy] at h
        cases h
        refine ⟨fun j => r (j - 1), ?_, fun j h1 h2 hn => ?_⟩
        · rw [List.length_cons, List.length_cons, ordNat_succ, show min (xs.length + 1) (ys.length + 1) = min xs.length ys.length + 1 by omega, lexAt_succ]
          rw [if_pos (by simpa using hxy), lexAt_shift]
          simpa using e
        · cases j with
          | zero => simp only [List.getD_cons_zero] at hn; rw [hxy] at hn; cases hn
          | succ j =>
            simp only [List.length_cons] at h1 h2
            simp only [List.getD_cons_succ] at hn ⊢
            exact q j (by omega) (by omega) hn
      · rw [if_neg hxy] at h
        refine ⟨fun j => match j with | 0 => b | j + 1 => r j, ?_, fun j h1 h2 hn => ?_⟩
        · rw [List.length_cons, List.length_cons, show min (xs.length + 1) (ys.length + 1) = min xs.length ys.length + 1 by omega, lexAt_succ, if_neg (by simpa using hxy)]
        · cases j with
          | zero => simpa using h
          | succ j =>
            simp only [List.length_cons] at h1 h2
            simp only [List.getD_cons_succ] at hn ⊢
            exact q j (by omega) (by omega) hn
theorem reads_get {h : Heap} : ∀ (xs : List PyData) (vs : List Value) (as : List Addr), ReadsAll h vs xs as → ∀ (j : Nat) (h1 : j < vs.length), ∃ bs, Reads h vs[j] (xs.getD j .none) bs
  | _, _, _, .nil, j, h1 => absurd h1 (by simp)
  | _, _, _, .cons r t, 0, h1 => ⟨_, r⟩
  | _, _, _, .cons r t, j + 1, h1 => by
    have h2 : j < List.length _ := Nat.lt_of_succ_lt_succ h1
    obtain ⟨bs, q⟩ := reads_get _ _ _ t j h2
    exact ⟨bs, by simpa using q⟩
theorem canLay_get {xs : List PyData} (h : PyData.canLayAll0 xs = true) : ∀ j, (xs.getD j .none).canLay0 = true := by
  induction xs with
  | nil => intro j; simp [PyData.canLay0]
  | cons x xs ih =>
    intro j
    have h' : x.canLay0 = true ∧ PyData.canLayAll0 xs = true := by simpa [PyData.canLayAll0] using h
    cases j with
    | zero => exact h'.1
    | succ j => simpa using ih h'.2 j
theorem depth_get : ∀ (xs : List PyData) (j : Nat), (xs.getD j .none).depth ≤ PyData.depthAll xs
  | [], j => by simp [PyData.depth]
  | x :: xs, 0 => by simp [PyData.depthAll]; omega
  | x :: xs, j + 1 => by
    have := depth_get xs j
    simp only [List.getD_cons_succ, PyData.depthAll]; omega
mutual
theorem rc_data (k : Ord) : ∀ (da db : PyData) (c : Bool), ordD k da db = some c → ∀ (A : Around) (s : Shared) (a b : Value) (as bs : List Addr), Reads s.heap a da as → Reads s.heap b db bs → da.canLay0 = true → db.canLay0 = true →
    A.units + da.depth < cLine → RcOp k.op A s a b c
  | .int i, .int j, c, h, A, s, _, _, _, _, .int _ t, .int _ u, _, _, _ => by unfold ordD at h; cases h; exact rc_int k i j t u
  | .str i, .str j, c, h, A, s, _, _, _, _, .str _ t, .str _ u, _, _, _ => by unfold ordD at h; cases h; exact rc_str k i j t u
  | .tuple xs, .tuple ys, c, h, A, s, _, _, _, _, .tuple ho hc hd ra, .tuple ho2 hc2 hd2 rb, ca, cb, hu => by
    unfold ordD at h
    obtain ⟨r, e, q⟩ := ordL_lexAt k xs ys c h
    have ca' : PyData.canLayAll0 xs = true := by simpa [PyData.canLay0] using ca
    have cb' : PyData.canLayAll0 ys = true := by simpa [PyData.canLay0] using cb
    have hu' : A.units + (PyData.depthAll xs + 1) < cLine := by simpa [PyData.depth] using hu
    have l1 := ReadsAll.length _ _ _ ra
    have l2 := ReadsAll.length _ _ _ rb
    rw [e]
    have hin : A.in1.units = A.units + 1 := rfl
    have go := tuples_ord k (A := A) (s := s) (e := fun j => PyData.eqv (xs.getD j .none) (ys.getD j .none)) (r := r) ⟨_, ho, hc, _, hd⟩ ⟨_, ho2, hc2, _, hd2⟩ (by omega) (fun j h1 h2 => ?_) (fun j h1 h2 hn => ?_)
    · simpa [← Array.length_toList, l1, l2] using go
    · obtain ⟨as', q1⟩ := reads_get _ _ _ ra j (by simpa using h1)
      obtain ⟨bs', q2⟩ := reads_get _ _ _ rb j (by simpa using h2)
      have d1 := depth_get xs j
      exact eqAt_reads _ _ A.in1 s _ _ as' bs' (by simpa using q1) (by simpa using q2) (canLay_get ca' j) (canLay_get cb' j) (by rw [hin]; omega)
    · obtain ⟨as', q1⟩ := reads_get _ _ _ ra j (by simpa using h1)
      obtain ⟨bs', q2⟩ := reads_get _ _ _ rb j (by simpa using h2)
      have d1 := depth_get xs j
      have hj : ordD k (xs.getD j .none) (ys.getD j .none) = some (r j) := q j (by rw [← l1]; simpa using h1) (by rw [← l2]; simpa using h2) hn
      exact rc_list k xs j _ hj A.in1 s _ _ as' bs' (by simpa using q1) (by simpa using q2) (canLay_get ca' j) (canLay_get cb' j) (by rw [hin]; omega)
  | .none, _, _, h, _, _, _, _, _, _, _, _, _, _, _ => by unfold ordD at h; cases h
  | .bool _, _, _, h, _, _, _, _, _, _, _, _, _, _, _ => by unfold ordD at h; cases h
  | .list _, _, _, h, _, _, _, _, _, _, _, _, _, _, _ => by unfold ordD at h; cases h
  | .dict _, _, _, h, _, _, _, _, _, _, _, _, _, _, _ => by unfold ordD at h; cases h
  | .int _, .none, _, h, _, _, _, _, _, _, _, _, _, _, _ => by unfold ordD at h; cases h
  | .int _, .bool _, _, h, _, _, _, _, _, _, _, _, _, _, _ => by unfold ordD at h; cases h
  | .int _, .str _, _, h, _, _, _, _, _, _, _, _, _, _, _ => by unfold ordD at h; cases h
  | .int _, .list _, _, h, _, _, _, _, _, _, _, _, _, _, _ => by unfold ordD at h; cases h
  | .int _, .tuple _, _, h, _, _, _, _, _, _, _, _, _, _, _ => by unfold ordD at h; cases h
  | .int _, .dict _, _, h, _, _, _, _, _, _, _, _, _, _, _ => by unfold ordD at h; cases h
  | .str _, .none, _, h, _, _, _, _, _, _, _, _, _, _, _ => by unfold ordD at h; cases h
  | .str _, .bool _, _, h, _, _, _, _, _, _, _, _, _, _, _ => by unfold ordD at h; cases h
  | .str _, .int _, _, h, _, _, _, _, _, _, _, _, _, _, _ => by unfold ordD at h; cases h
  | .str _, .list _, _, h, _, _, _, _, _, _, _, _, _, _, _ => by unfold ordD at h; cases h
  | .str _, .tuple _, _, h, _, _, _, _, _, _, _, _, _, _, _ => by unfold ordD at h; cases h
  | .str _, .dict _, _, h, _, _, _, _, _, _, _, _, _, _, _ => by unfold ordD at h; cases h
  | .tuple _, .none, _, h, _, _, _, _, _, _, _, _, _, _, _ => by unfold ordD at h; cases h
  | .tuple _, .bool _, _, h, _, _, _, _, _, _, _, _, _, _, _ => by unfold ordD at h; cases h
  | .tuple _, .int _, _, h, _, _, _, _, _, _, _, _, _, _, _ => by unfold ordD at h; cases h
  | .tuple _, .str _, _, h, _, _, _, _, _, _, _, _, _, _, _ => by unfold ordD at h; cases h
  | .tuple _, .list _, _, h, _, _, _, _, _, _, _, _, _, _, _ => by unfold ordD at h; cases h
  | .tuple _, .dict _, _, h, _, _, _, _, _, _, _, _, _, _, _ => by unfold ordD at h; cases h
theorem rc_list (k : Ord) : ∀ (xs : List PyData) (j : Nat) (db : PyData) {c : Bool}, ordD k (xs.getD j .none) db = some c → ∀ (A : Around) (s : Shared) (a b : Value) (as bs : List Addr), Reads s.heap a (xs.getD j .none) as → Reads s.heap b db bs → (xs.getD j .none).canLay0 = true → db.canLay0 = true →
    A.units + (xs.getD j .none).depth < cLine → RcOp k.op A s a b c
  | [], j, db, c, h, _, _, _, _, _, _, _, _, _, _, _ => by simp only [List.getD_nil] at h; unfold ordD at h; cases h
  | x :: xs, 0, db, c, h, A, s, a, b, as, bs, ra, rb, ca, cb, hu => rc_data k x db c h A s a b as bs ra rb ca cb hu
  | x :: xs, j + 1, db, c, h, A, s, a, b, as, bs, ra, rb, ca, cb, hu => by
    simp only [List.getD_cons_succ] at h ra ca hu
    exact rc_list k xs j db h A s a b as bs ra rb ca cb hu
end
end PBo

namespace PB
open PySem PySem.Spec PyProof.Rows L2
variable {Ts : List Addr}
open PBo (Ord ordD)

inductive COp | eq | ne | ord (k : Ord) | isin | notin
  deriving DecidableEq
def COp.op : COp → CmpOp
  | .eq => .Eq | .ne => .NotEq | .ord k => k.op | .isin => .In | .notin => .NotIn
def shD (d : D) : Bool := SeqAt.shaped d
def bothStr : D → D → Bool
  | .str _, .str _ => true
  | _, _ => false
def keyD : D → Option Key
  | .int i => some (.inl i)
  | .str x => some (.inr x)
  | _ => none
def kvGet {α : Type} (kvs : List (Key × α)) (k : Key) : Option α := (kvs.find? fun kv => decide (kv.1 = k)).map (·.2)
def hasKey (kvs : List (Key × Xv)) (k : Key) : Bool := (kvGet kvs k).isSome
def pIn (x y : Xv) (S : Sto) : Option Bool := match datOf S y with
  | some (.list ds) => (match datOf S x with
    | some d => if shD d && shD (.list ds) then some (ds.any fun z => PyData.eqv z d) else none
    | none => none)
  | some (.tuple ds) => (match datOf S x with
    | some d => if shD d && shD (.tuple ds) then some (ds.any fun z => PyData.eqv z d) else none
    | none => none)
  | some (.str z) => (match x with
    | .d (.str w) => some (!(Builtin.Str.occurrences z w 0 z.length 1).isEmpty)
    | _ => none)
  | _ => (match x, y with
    | .d d, .r n => (match S[n]?, keyD d with
      | some (.dct kvs), some k => some (hasKey kvs k)
      | _, _ => none)
    | _, _ => none)
def pEq (x y : Xv) (S : Sto) : Option Bool := match datOf S x, datOf S y with
  | some a, some b => if bothStr a b || (shD a && shD b) then some (PyData.eqv a b) else none
  | _, _ => none
def pOrd (k : Ord) (x y : Xv) (S : Sto) : Option Bool := match datOf S x, datOf S y with
  | some a, some b => if shD a && shD b then ordD k a b else none
  | _, _ => none
def pCmpB : COp → Xv → Xv → Sto → Option Bool
  | .eq, x, y, S => pEq x y S
  | .ne, x, y, S => (pEq x y S).map (!·)
  | .ord k, x, y, S => pOrd k x y S
  | .isin, x, y, S => pIn x y S
  | .notin, x, y, S => (pIn x y S).map (!·)
def boolR (o : Option Bool) (S : Sto) : R Xv := match o with
  | some b => .ok (.d (.bool b)) S
  | none => .bad
def pCmp (op : COp) (x y : Xv) (S : Sto) : R Xv := boolR (pCmpB op x y S) S

/-- what two values and a store say of two values -/
def rCmp (K : PySem.W.Frag) (op : COp) : R2 := fun x y H Q => ∃ (Ts : List Addr) (S : Sto) (mu hs : List Addr) (a b : Xv) (c : Bool), StoOk K Ts S mu hs H ∧ DenX K (live S mu hs) mu H a x ∧ DenX K (live S mu hs) mu H b y ∧ pCmpB op a b S = some c ∧ Q (.bl c) H
section
variable {X : Cx} {E : XW}
theorem sh_can {d : D} (h : shD d = true) : d.canLay0 = true := SeqAt.canLay_of_shaped h
theorem valV_isSome {K : PySem.W.Frag} {lv : Addr → Prop} {mu : List Addr} {H : Hp} : ∀ {kvs : List (Key × Xv)} {ws : List (Key × V)} {k : Key}, DenKv K lv mu H kvs ws → (valV ws k).isSome = hasKey kvs k
  | _, _, _, .nil => rfl
  | (a, x) :: kvs, (b, y) :: ws, k, .cons q t => by
    have ih := valV_isSome (k := k) t
    obtain ⟨e, _⟩ := q
    have e : a = b := e
    subst e
    unfold hasKey kvGet valV at ih ⊢
    rw [List.find?_cons, List.find?_cons]
    by_cases h : a = k
    · subst h; simp
    · simp only [decide_eq_false h]; exact ih
theorem valV_den {K : PySem.W.Frag} {lv : Addr → Prop} {mu : List Addr} {H : Hp} : ∀ {kvs : List (Key × Xv)} {ws : List (Key × V)} {k : Key} {x : Xv}, DenKv K lv mu H kvs ws → kvGet kvs k = some x → ∃ v, valV ws k = some v ∧ DenX K lv mu H x v
  | _, _, _, _, .nil, h => by cases h
  | (a, y) :: kvs, (b, z) :: ws, k, x, .cons q t, h => by
    have ih := valV_den (k := k) (x := x) t
    obtain ⟨e, q⟩ := q
    have e : a = b := e
    subst e
    unfold kvGet valV at *
    rw [List.find?_cons] at h ⊢
    by_cases hk : a = k
    · subst hk
      simp only [decide_true, Option.map_some, Option.some.injEq] at h ⊢
      subst h
      exact ⟨z, rfl, q⟩
    · simp only [decide_eq_false hk] at h ⊢; exact ih h
theorem keyD_den {K : PySem.W.Frag} {lv : Addr → Prop} {mu : List Addr} {H : Hp} {d : D} {k : Key} {v : V} (h : DenX K lv mu H (.d d) v) (e : keyD d = some k) : v = kV k := by
  cases d with
  | int i => cases e; exact den_int h
  | str x => cases e; unfold DenX DenD at h; exact h
  | _ => cases e
theorem str_dp {K : PySem.W.Frag} {H : Hp} {v : V} {x : Str} (h : Dp K H v (.str x)) : v = .str x := by cases h; rfl
theorem op_cmp (hu : X.A.units + 100 < cLine) : ∀ op : COp, OpR X (compareOp op.op) (rCmp X.K op)
  | .eq => fun pins s σ H x y v u Q I rx ry h => by
    obtain ⟨_, S, mu, hs, a, b, c, so, ha, hb, e, q⟩ := h
    simp only [pCmpB, pEq] at e
    split at e
    · rename_i da db ea eb
      have p1 := ha.dp so ea
      have p2 := hb.dp so eb
      split at e
      · rename_i hc
        cases e
        cases hbs : bothStr da db with
        | true =>
          cases da with
          | str z => cases db with
            | str z2 =>
              have e1 := str_dp p1
              have e2 := str_dp p2
              subst e1 e2
              refine op_eq pins s σ H _ _ v u Q I rx ry ⟨rfl, ?_⟩
              have : decide (V.str z = V.str z2) = PyData.eqv (.str z) (.str z2) := by rw [dec_str]; simp [PyData.eqv]
              rw [this]; exact q
            | _ => cases hbs
          | _ => cases hbs
        | false =>
          rw [hbs, Bool.false_or, Bool.and_eq_true] at hc
          exact op_eqD (by omega) pins s σ H x y v u Q I rx ry ⟨da, db, p1, p2, hc.1, hc.2, q⟩
      · cases e
    · cases e
  | .ne => fun pins s σ H x y v u Q I rx ry h => by
    obtain ⟨_, S, mu, hs, a, b, c, so, ha, hb, e, q⟩ := h
    simp only [pCmpB, pEq] at e
    split at e
    · rename_i da db ea eb
      have p1 := ha.dp so ea
      have p2 := hb.dp so eb
      split at e
      · rename_i hc
        cases e
        cases hbs : bothStr da db with
        | true =>
          cases da with
          | str z => cases db with
            | str z2 =>
              have e1 := str_dp p1
              have e2 := str_dp p2
              subst e1 e2
              refine op_ne pins s σ H _ _ v u Q I rx ry ⟨rfl, ?_⟩
              have : decide (V.str z = V.str z2) = PyData.eqv (.str z) (.str z2) := by rw [dec_str]; simp [PyData.eqv]
              rw [this]; exact q
            | _ => cases hbs
          | _ => cases hbs
        | false =>
          rw [hbs, Bool.false_or, Bool.and_eq_true] at hc
          exact op_neD (by omega) pins s σ H x y v u Q I rx ry ⟨da, db, p1, p2, hc.1, hc.2, q⟩
      · cases e
    · cases e
  | .ord k => fun pins s σ H x y v u Q I rx ry h => by
    obtain ⟨_, S, mu, hs, a, b, c, so, ha, hb, e, q⟩ := h
    simp only [pCmpB, pOrd] at e
    split at e
    · rename_i da db ea eb
      have p1 := ha.dp so ea
      have p2 := hb.dp so eb
      split at e
      · rename_i hc
        rw [Bool.and_eq_true] at hc
        obtain ⟨as, r1⟩ := Dp.reads I da x v p1 rx
        obtain ⟨bs, r2⟩ := Dp.reads I db y u p2 ry
        have hd := SeqAt.depth_of_shaped hc.1
        have go := PBo.rc_data k da db c e X.A s v u as bs r1 r2 (sh_can hc.1) (sh_can hc.2) (by omega) X.prog X.w X.xe (EP X pins σ Q) ⟨.bl c, H, I, rfl, q⟩
        cases k <;> exact go
      · cases e
    · cases e
  | .isin => fun pins s σ H x y v u Q I rx ry h => by
    obtain ⟨_, S, mu, hs, a, b, c, so, ha, hb, e, q⟩ := h
    simp only [pCmpB, pIn] at e
    split at e
    · rename_i ds eb
      split at e
      · rename_i d ea
        split at e
        · rename_i hc
          rw [Bool.and_eq_true] at hc
          cases e
          exact op_inD (by omega) pins s σ H x y v u Q I rx ry ⟨d, ds, ha.dp so ea, hb.dp so eb, hc.1, hc.2, q⟩
        · cases e
      · cases e
    · rename_i ds eb
      split at e
      · rename_i d ea
        split at e
        · rename_i hc
          rw [Bool.and_eq_true] at hc
          cases e
          obtain ⟨as, r1⟩ := Dp.reads I d x v (ha.dp so ea) rx
          obtain ⟨bs, r2⟩ := Dp.reads I (.tuple ds) y u (hb.dp so eb) ry
          have cs := sh_can hc.2
          exact SeqAt.in_tuple_reads r2 r1 (by simpa [PyData.canLay0] using cs) (sh_can hc.1) (room_in_shaped hc.1 (by omega)) ⟨.bl _, H, I, rfl, q⟩
        · cases e
      · cases e
    · rename_i z eb
      split at e
      · rename_i w
        cases e
        have e1 := str_dp (ha.dp so (d := .str w) rfl)
        have e2 := str_dp (hb.dp so eb)
        subst e1 e2
        exact op_in_str pins s σ H _ _ v u Q I rx ry ⟨w, z, rfl, rfl, q⟩
      · cases e
    · split at e
      · rename_i d n _ _ _
        split at e
        · rename_i kvs k es ek
          cases e
          obtain ⟨p, rfl, hp⟩ := hb
          obtain ⟨ws, hw, hk⟩ := so.ok n _ p es hp
          have ex := keyD_den ha ek
          obtain rfl : u = Value.ref p := ry
          refine d_in (o := valV ws k) (by omega) I (ex ▸ DGet.k hw) rx fun s3 I3 => ⟨.bl (hasKey kvs k), H, I3, ?_, q⟩
          rw [valV_isSome hk]; rfl
        · cases e
      · cases e
  | .notin => fun pins s σ H x y v u Q I rx ry h => by
    obtain ⟨_, S, mu, hs, a, b, c, so, ha, hb, e, q⟩ := h
    simp only [pCmpB, pIn] at e
    split at e
    · rename_i ds eb
      split at e
      · rename_i d ea
        split at e
        · rename_i hc
          rw [Bool.and_eq_true] at hc
          cases e
          exact op_notInD (by omega) pins s σ H x y v u Q I rx ry ⟨d, ds, ha.dp so ea, hb.dp so eb, hc.1, hc.2, q⟩
        · cases e
      · cases e
    · rename_i ds eb
      split at e
      · rename_i d ea
        split at e
        · rename_i hc
          rw [Bool.and_eq_true] at hc
          cases e
          obtain ⟨as, r1⟩ := Dp.reads I d x v (ha.dp so ea) rx
          obtain ⟨bs, r2⟩ := Dp.reads I (.tuple ds) y u (hb.dp so eb) ry
          have cs := sh_can hc.2
          exact SeqAt.notIn_tuple_reads r2 r1 (by simpa [PyData.canLay0] using cs) (sh_can hc.1) (room_in_shaped hc.1 (by omega)) ⟨.bl _, H, I, rfl, q⟩
        · cases e
      · cases e
    · rename_i z eb
      split at e
      · rename_i w
        cases e
        have e1 := str_dp (ha.dp so (d := .str w) rfl)
        have e2 := str_dp (hb.dp so eb)
        subst e1 e2
        exact op_notin_str pins s σ H _ _ v u Q I rx ry ⟨w, z, rfl, rfl, q⟩
      · cases e
    · split at e
      · rename_i d n _ _ _
        split at e
        · rename_i kvs k es ek
          cases e
          obtain ⟨p, rfl, hp⟩ := hb
          obtain ⟨ws, hw, hk⟩ := so.ok n _ p es hp
          have ex := keyD_den ha ek
          obtain rfl : u = Value.ref p := ry
          refine d_notIn (o := valV ws k) (by omega) I (ex ▸ DGet.k hw) rx fun s3 I3 => ⟨.bl (!hasKey kvs k), H, I3, ?_, q⟩
          rw [valV_isSome hk]; rfl
        · cases e
      · cases e
end
end PB

namespace PB
open PySem PySem.Spec PyProof.Rows L2
variable {Ts : List Addr}
open PBo (Ord ordD)
abbrev Me := Env0' → Sto → R Xv
abbrev Mes := Env0' → Sto → R (List Xv)
/-- a test's meaning by a value's -/
def tst (p : Me) : Env0' → Sto → R Bool := fun ρ S => (p ρ S).bind fun x S1 => match truX S1 x with
  | some b => .ok b S1
  | none => .bad

section
variable {X : Cx} {E : XW}
theorem rcmp_of {K : PySem.W.Frag} {op : COp} {x y : Xv} {S : Sto} {mu hs : List Addr} {H : Hp} {v u : V} {Q : VK} (s : StoOk K E.ts S mu hs H) (hx : DenX K (live S mu hs) mu H x v) (hy : DenX K (live S mu hs) mu H y u)
    (h : Post K E S mu hs H (fun z S' mu' H' => ∀ v, DenX K (live S' mu' hs) mu' H' z v → Q v H') (pCmp op x y S)) : rCmp K op v u H Q := by
  unfold pCmp boolR at h
  cases e : pCmpB op x y S with
  | none => rw [e] at h; exact h.elim
  | some c => rw [e] at h; exact ⟨_, S, mu, hs, x, y, c, s, hx, hy, e, post_d s h bool_den⟩
theorem e_cmp {op : COp} {a b : Expr} {pos : Pos} {pa pb : Me} (hu : X.A.units + 100 < cLine) (ha : PE X a (tD X.K E pa)) (hb : PE X b (tD X.K E pb)) (hm : behindInMarks op.op b = false) :
    PE X (.Compare a [op.op] [b] pos) (tD X.K E fun ρ S => (pa ρ S).bind fun x S1 => (pb ρ S1).bind fun y S2 => pCmp op x y S2) :=
  PE.imp (pe_cmpR (op_cmp hu op) ha hb hm) fun _ _ _ h => tD_op (fun _ _ _ _ _ _ _ _ _ s hx hy h => rcmp_of s hx hy h) h
theorem t_cmp {op : COp} {a b : Expr} {pos : Pos} {pa pb : Me} (hu : X.A.units + 100 < cLine) (ha : PE X a (tD X.K E pa)) (hb : PE X b (tD X.K E pb)) (hm : behindInMarks op.op b = false) :
    PT X (.Compare a [op.op] [b] pos) (tDt X.K E (tst fun ρ S => (pa ρ S).bind fun x S1 => (pb ρ S1).bind fun y S2 => pCmp op x y S2)) := by
  refine PT.imp (pt_cmpR (op_cmp hu op) ha hb hm) fun σ H Q h => ?_
  obtain ⟨ρ, S, mu, hs, e, s, h⟩ := h
  refine ⟨ρ, S, mu, hs, e, s, ?_⟩
  unfold tst at h
  have h := h.bind
  refine h.bind.mono fun x S1 mu1 H1 g1 s1 q v hv => ?_
  refine ⟨ρ, S1, mu1, hs, e.go g1, s1, q.2.2.bind.mono fun y S2 mu2 H2 g2 s2 q2 u hu => ?_⟩
  obtain ⟨_, _, q2⟩ := q2
  unfold pCmp boolR at q2
  cases ec : pCmpB op x y S2 with
  | none => rw [ec] at q2; exact q2.elim
  | some c =>
    rw [ec] at q2
    refine ⟨_, S2, mu2, hs, x, y, c, s2, hv.go g2, hu, ec, c, rfl, ?_⟩
    obtain ⟨_, _, q3⟩ := q2.here s2
    exact q3.here s2
/-- a op b op' c -/
def pChain (op op' : COp) (pa pb pc : Me) : Me := fun ρ S => (pa ρ S).bind fun x S1 => (pb ρ S1).bind fun y S2 => match pCmpB op x y S2 with
  | some true => (pc ρ S2).bind fun z S3 => pCmp op' y z S3
  | some false => .ok (.d (.bool false)) S2
  | none => .bad
theorem chain_red {op op' : COp} {pa pb pc : Me} {σ : L2.St} {H : Hp} {Q : VK} (h : tD X.K E (pChain op op' pa pb pc) σ H Q) : tChain (rCmp X.K op) (rCmp X.K op') (tD X.K E pa) (tD X.K E pb) (tD X.K E pc) σ H Q := by
  obtain ⟨ρ, S, mu, hs, e, s, h⟩ := h
  unfold pChain at h
  refine ⟨ρ, S, mu, hs, e, s, h.bind.mono fun x S1 mu1 H1 g1 s1 q v hv => ?_⟩
  refine ⟨ρ, S1, mu1, hs, e.go g1, s1, q.2.2.bind.mono fun y S2 mu2 H2 g2 s2 q2 u hu => ?_⟩
  obtain ⟨_, _, q2⟩ := q2
  cases ec : pCmpB op x y S2 with
  | none => rw [ec] at q2; exact q2.elim
  | some c =>
    rw [ec] at q2
    refine ⟨_, S2, mu2, hs, x, y, c, s2, hv.go g2, hu, ec, c, rfl, ?_⟩
    cases c with
    | false => rw [if_neg Bool.false_ne_true]; exact post_d s2 q2 bool_den
    | true =>
      rw [if_pos rfl]
      refine ⟨ρ, S2, mu2, hs, (e.go g1).go g2, s2, q2.bind.mono fun z S3 mu3 H3 g3 s3 q3 t ht => ?_⟩
      exact rcmp_of s3 (hu.go g3) ht q3.2.2
theorem e_chain {op op' : COp} {a b c : Expr} {pos : Pos} {pa pb pc : Me} (hu : X.A.units + 100 < cLine) (ha : PE X a (tD X.K E pa)) (hb : PE X b (tD X.K E pb)) (hc : PE X c (tD X.K E pc)) (hm : behindInMarks op'.op c = false) :
    PE X (.Compare a [op.op, op'.op] [b, c] pos) (tD X.K E (pChain op op' pa pb pc)) :=
  PE.imp (pe_chain (op_cmp hu op) (op_cmp hu op') ha hb hc (by first | exact hm | (simpa using hm) | assumption)) fun _ _ _ h => chain_red h
/-- a value's test -/
theorem tst_red {pa : Me} {σ : L2.St} {H : Hp} {Q : Bool → Hp → Prop} (h : tDt X.K E (tst pa) σ H Q) : tD X.K E pa σ H fun x H' => ∃ k, TruV X.K x H' k ∧ Q k H' := by
  obtain ⟨ρ, S, mu, hs, e, s, h⟩ := h
  refine ⟨ρ, S, mu, hs, e, s, Post.mono (Post.bind h) fun x S1 mu1 H1 g1 s1 q v hv => ?_⟩
  obtain ⟨_, _, q⟩ := q
  cases et : truX S1 x with
  | none => rw [et] at q; exact q.elim
  | some b => rw [et] at q; exact ⟨b, hv.tru s1 et, q.here s1⟩
theorem chain_bool {op op' : COp} {pa pb pc : Me} {ρ : Env0'} {S S' : Sto} {x : Xv} (h : pChain op op' pa pb pc ρ S = .ok x S') : ∃ b, x = .d (.bool b) := by
  obtain ⟨y, S1, _, h⟩ := R.bind_ok h
  obtain ⟨z, S2, _, h⟩ := R.bind_ok h
  split at h
  · obtain ⟨w, S3, _, h⟩ := R.bind_ok h
    unfold pCmp boolR at h
    split at h
    · cases h; exact ⟨_, rfl⟩
    · cases h
  · cases h; exact ⟨_, rfl⟩
  · cases h
theorem t_val {a : Expr} {pa : Me} (ha : PE X a (tD X.K E pa)) (he : ∀ whole, isTrue a X.env whole = (do let v ← whole; standAt a.pos; holding [v] (truthy v))) : PT X a (tDt X.K E (tst pa)) :=
  PT.imp (pt_truth ha he) fun _ _ _ h => tst_red h
/-- the end of a chain as a test -/
theorem t_chain {op op' : COp} {a b c : Expr} {pos : Pos} {pa pb pc : Me} (hu : X.A.units + 100 < cLine) (ha : PE X a (tD X.K E pa)) (hb : PE X b (tD X.K E pb)) (hc : PE X c (tD X.K E pc)) (hm : behindInMarks op'.op c = false) :
    PT X (.Compare a [op.op, op'.op] [b, c] pos) (tDt X.K E (tst (pChain op op' pa pb pc))) := by
  refine PT.imp (pt_chain (op_cmp hu op) (op_cmp hu op') ha hb hc (by first | exact hm | (simpa using hm) | assumption)) fun σ H Q h => ?_
  obtain ⟨ρ, S, mu, hs, e, s, h⟩ := h
  refine chain_red ⟨ρ, S, mu, hs, e, s, Post.mono' (Post.bind h) fun x S1 mu1 H1 ex g1 s1 q v hv => ?_⟩
  obtain ⟨_, _, q⟩ := q
  obtain ⟨k, rfl⟩ := chain_bool ex
  refine ⟨k, by unfold DenX DenD at hv; exact hv, q.here s1⟩
theorem pe_isn {e : Expr} {t : TE} (h : PE X e t) : PE X e t := h
def isNoneX : Xv → Bool
  | .d .none => true
  | _ => false
def pIsN (pa : Me) : Me := fun ρ S => (pa ρ S).bind fun x S1 => .ok (.d (.bool (isNoneX x))) S1
def pNtN (pa : Me) : Me := fun ρ S => (pa ρ S).bind fun x S1 => .ok (.d (.bool (!isNoneX x))) S1
theorem isN_den {K : PySem.W.Frag} {lv : Addr → Prop} {mu : List Addr} {H : Hp} {x : Xv} {v : V} (h : DenX K lv mu H x v) : decide (v = .non) = isNoneX x := by
  cases x with
  | r n => obtain ⟨a, rfl, _⟩ := h; rfl
  | d d =>
    cases d with
    | none => unfold DenX DenD at h; subst h; rfl
    | bool b => unfold DenX DenD at h; subst h; rfl
    | int b => unfold DenX DenD at h; subst h; rfl
    | str b => unfold DenX DenD at h; subst h; rfl
    | tuple b => obtain ⟨a, vs, rfl, _⟩ := den_tuple h; rfl
    | list b => obtain ⟨a, vs, rfl, _⟩ := den_list h; rfl
    | dict b => unfold DenX DenD at h; exact h.elim
theorem isN_red {pa : Me} {σ : L2.St} {H : Hp} {Q : VK} (h : tD X.K E (pIsN pa) σ H Q) : tIsN (tD X.K E pa) σ H Q := by
  obtain ⟨ρ, S, mu, hs, e, s, h⟩ := h
  refine ⟨ρ, S, mu, hs, e, s, Post.mono (Post.bind h) fun x S1 mu1 H1 g1 s1 q v hv => ?_⟩
  obtain ⟨_, _, q⟩ := q
  rw [isN_den hv]
  exact post_d s1 q bool_den
theorem ntN_red {pa : Me} {σ : L2.St} {H : Hp} {Q : VK} (h : tD X.K E (pNtN pa) σ H Q) : tNotN (tD X.K E pa) σ H Q := by
  obtain ⟨ρ, S, mu, hs, e, s, h⟩ := h
  refine ⟨ρ, S, mu, hs, e, s, Post.mono (Post.bind h) fun x S1 mu1 H1 g1 s1 q v hv => ?_⟩
  obtain ⟨_, _, q⟩ := q
  rw [isN_den hv]
  exact post_d s1 q bool_den
theorem e_isN {a : Expr} {j : Nat} {p' pos : Pos} {pa : Me} (ha : PE X a (tD X.K E pa)) : PE X (.Compare a [.Is] [.Constant .none j p'] pos) (tD X.K E (pIsN pa)) := PE.imp (pe_cmp (pc_isN ha)) fun _ _ _ h => isN_red h
theorem e_ntN {a : Expr} {j : Nat} {p' pos : Pos} {pa : Me} (ha : PE X a (tD X.K E pa)) : PE X (.Compare a [.IsNot] [.Constant .none j p'] pos) (tD X.K E (pNtN pa)) := PE.imp (pe_cmp (pc_notN ha)) fun _ _ _ h => ntN_red h
/-- a test whose value is a bool -/
theorem tB_red {p : Me} {t : TE} {σ : L2.St} {H : Hp} {Q : Bool → Hp → Prop} (hb : ∀ ρ S x S', p ρ S = .ok x S' → ∃ b, x = .d (.bool b)) (ht : ∀ σ H Q, tD X.K E p σ H Q → t σ H Q) (h : tDt X.K E (tst p) σ H Q) : tB t σ H Q := by
  obtain ⟨ρ, S, mu, hs, e, s, h⟩ := h
  refine ht _ _ _ ⟨ρ, S, mu, hs, e, s, Post.mono' (Post.bind h) fun x S1 mu1 H1 ex g1 s1 q v hv => ?_⟩
  obtain ⟨_, _, q⟩ := q
  obtain ⟨k, rfl⟩ := hb _ _ _ _ ex
  exact ⟨k, by unfold DenX DenD at hv; exact hv, q.here s1⟩
theorem isN_bool {pa : Me} {ρ : Env0'} {S S' : Sto} {x : Xv} (h : pIsN pa ρ S = .ok x S') : ∃ b, x = .d (.bool b) := by
  obtain ⟨y, S1, _, h2⟩ := R.bind_ok h
  cases h2; exact ⟨_, rfl⟩
theorem ntN_bool {pa : Me} {ρ : Env0'} {S S' : Sto} {x : Xv} (h : pNtN pa ρ S = .ok x S') : ∃ b, x = .d (.bool b) := by
  obtain ⟨y, S1, _, h2⟩ := R.bind_ok h
  cases h2; exact ⟨_, rfl⟩
theorem t_isN {a : Expr} {j : Nat} {p' pos : Pos} {pa : Me} (ha : PE X a (tD X.K E pa)) : PT X (.Compare a [.Is] [.Constant .none j p'] pos) (tDt X.K E (tst (pIsN pa))) :=
  PT.imp (pt_cmp (pc_isN ha)) fun _ _ _ h => tB_red (fun _ _ _ _ => isN_bool) (fun _ _ _ => isN_red) h
theorem t_ntN {a : Expr} {j : Nat} {p' pos : Pos} {pa : Me} (ha : PE X a (tD X.K E pa)) : PT X (.Compare a [.IsNot] [.Constant .none j p'] pos) (tDt X.K E (tst (pNtN pa))) :=
  PT.imp (pt_cmp (pc_notN ha)) fun _ _ _ h => tB_red (fun _ _ _ _ => ntN_bool) (fun _ _ _ => ntN_red) h

/-- x and y, by truth -/
def pAnd (pa pb : Me) : Me := fun ρ S => (pa ρ S).bind fun x S1 => match truX S1 x with
  | some true => pb ρ S1
  | some false => .ok x S1
  | none => .bad
def pOr (pa pb : Me) : Me := fun ρ S => (pa ρ S).bind fun x S1 => match truX S1 x with
  | some true => .ok x S1
  | some false => pb ρ S1
  | none => .bad
def pNot (pa : Me) : Me := fun ρ S => (pa ρ S).bind fun x S1 => match truX S1 x with
  | some b => .ok (.d (.bool !b)) S1
  | none => .bad
theorem e_and {a b : Expr} {rest : List Expr} {pos : Pos} {pa pb : Me} (ha : PE X a (tD X.K E pa)) (hb : PE X (.BoolOp .And (b :: rest) pos) (tD X.K E pb)) : PE X (.BoolOp .And (a :: b :: rest) pos) (tD X.K E (pAnd pa pb)) := by
  refine PE.imp (pe_andT ha hb) fun σ H Q h => ?_
  obtain ⟨ρ, S, mu, hs, e, s, h⟩ := h
  refine ⟨ρ, S, mu, hs, e, s, Post.mono (Post.bind h) fun x S1 mu1 H1 g1 s1 q v hv => ?_⟩
  obtain ⟨_, _, q⟩ := q
  cases et : truX S1 x with
  | none => rw [et] at q; exact q.elim
  | some k =>
    rw [et] at q
    refine ⟨k, hv.tru s1 et, ?_⟩
    cases k with
    | true => exact ⟨ρ, S1, mu1, hs, e.go g1, s1, q⟩
    | false => exact q.here s1 v hv
theorem e_or {a b : Expr} {rest : List Expr} {pos : Pos} {pa pb : Me} (ha : PE X a (tD X.K E pa)) (hb : PE X (.BoolOp .Or (b :: rest) pos) (tD X.K E pb)) : PE X (.BoolOp .Or (a :: b :: rest) pos) (tD X.K E (pOr pa pb)) := by
  refine PE.imp (pe_orT ha hb) fun σ H Q h => ?_
  obtain ⟨ρ, S, mu, hs, e, s, h⟩ := h
  refine ⟨ρ, S, mu, hs, e, s, Post.mono (Post.bind h) fun x S1 mu1 H1 g1 s1 q v hv => ?_⟩
  obtain ⟨_, _, q⟩ := q
  cases et : truX S1 x with
  | none => rw [et] at q; exact q.elim
  | some k =>
    rw [et] at q
    refine ⟨k, hv.tru s1 et, ?_⟩
    cases k with
    | false => exact ⟨ρ, S1, mu1, hs, e.go g1, s1, q⟩
    | true => exact q.here s1 v hv
theorem e_not {a : Expr} {pos : Pos} {pa : Me} (ha : PE X a (tD X.K E pa)) : PE X (.UnaryOp .Not a pos) (tD X.K E (pNot pa)) := by
  refine PE.imp (pe_notT ha) fun σ H Q h => ?_
  obtain ⟨ρ, S, mu, hs, e, s, h⟩ := h
  refine ⟨ρ, S, mu, hs, e, s, Post.mono (Post.bind h) fun x S1 mu1 H1 g1 s1 q v hv => ?_⟩
  obtain ⟨_, _, q⟩ := q
  cases et : truX S1 x with
  | none => rw [et] at q; exact q.elim
  | some k => rw [et] at q; exact ⟨k, hv.tru s1 et, post_d s1 q bool_den⟩
theorem w_and1 {a : Expr} {pos : Pos} {pa : Me} (ha : PT X a (tDt X.K E (tst pa))) : PW X (.BoolOp .And [a] pos) (tDt X.K E (tst pa)) := pw_and1 ha
theorem w_or1 {a : Expr} {pos : Pos} {pa : Me} (ha : PT X a (tDt X.K E (tst pa))) : PW X (.BoolOp .Or [a] pos) (tDt X.K E (tst pa)) := pw_or1 ha
theorem w_and {a b : Expr} {rest : List Expr} {pos : Pos} {pa pb : Me} (ha : PT X a (tDt X.K E (tst pa))) (hb : PW X (.BoolOp .And (b :: rest) pos) (tDt X.K E (tst pb))) : PW X (.BoolOp .And (a :: b :: rest) pos) (tDt X.K E (tst (pAnd pa pb))) := by
  refine PW.imp (pw_and ha hb) fun σ H Q h => ?_
  obtain ⟨ρ, S, mu, hs, e, s, h⟩ := h
  have h1 : Post X.K E S mu hs H (fun b S' mu' H' => Q b H') ((pa ρ S).bind fun x S1 => match truX S1 x with
      | some true => tst pb ρ S1
      | some false => .ok false S1
      | none => .bad) := by
    unfold tst pAnd at h
    cases hp : pa ρ S with
    | ok x S1 =>
      rw [hp] at h
      simp only [R.bind] at h ⊢
      cases et : truX S1 x with
      | none => rw [et] at h; exact h
      | some k =>
        rw [et] at h
        cases k with
        | true => exact h
        | false => simp only [et] at h; exact h
    | exc c as S1 => rw [hp] at h; exact h
    | bad => rw [hp] at h; exact h
  refine ⟨ρ, S, mu, hs, e, s, ?_⟩
  unfold tst
  cases hp : pa ρ S with
  | ok x S1 =>
    rw [hp] at h1
    simp only [R.bind] at h1 ⊢
    cases et : truX S1 x with
    | none => rw [et] at h1; exact h1
    | some k =>
      rw [et] at h1
      cases k with
      | true =>
        intro mu1 H1 g1 s1
        rw [if_pos rfl]
        exact ⟨ρ, S1, mu1, hs, e.go g1, s1, (Post.bind (r := .ok x S1) (f := fun _ S1 => tst pb ρ S1) h1 mu1 H1 g1 s1).2.2⟩
      | false => exact fun mu1 H1 g1 s1 => by simp only [Bool.false_eq_true, if_false]; exact h1 mu1 H1 g1 s1
  | exc c as S1 => rw [hp] at h1; exact h1
  | bad => rw [hp] at h1; exact h1
theorem w_or {a b : Expr} {rest : List Expr} {pos : Pos} {pa pb : Me} (ha : PT X a (tDt X.K E (tst pa))) (hb : PW X (.BoolOp .Or (b :: rest) pos) (tDt X.K E (tst pb))) : PW X (.BoolOp .Or (a :: b :: rest) pos) (tDt X.K E (tst (pOr pa pb))) := by
  refine PW.imp (pw_or ha hb) fun σ H Q h => ?_
  obtain ⟨ρ, S, mu, hs, e, s, h⟩ := h
  have h1 : Post X.K E S mu hs H (fun b S' mu' H' => Q b H') ((pa ρ S).bind fun x S1 => match truX S1 x with
      | some true => .ok true S1
      | some false => tst pb ρ S1
      | none => .bad) := by
    unfold tst pOr at h
    cases hp : pa ρ S with
    | ok x S1 =>
      rw [hp] at h
      simp only [R.bind] at h ⊢
      cases et : truX S1 x with
      | none => rw [et] at h; exact h
      | some k =>
        rw [et] at h
        cases k with
        | false => exact h
        | true => simp only [et] at h; exact h
    | exc c as S1 => rw [hp] at h; exact h
    | bad => rw [hp] at h; exact h
  refine ⟨ρ, S, mu, hs, e, s, ?_⟩
  unfold tst
  cases hp : pa ρ S with
  | ok x S1 =>
    rw [hp] at h1
    simp only [R.bind] at h1 ⊢
    cases et : truX S1 x with
    | none => rw [et] at h1; exact h1
    | some k =>
      rw [et] at h1
      cases k with
      | false =>
        intro mu1 H1 g1 s1
        rw [if_neg Bool.false_ne_true]
        exact ⟨ρ, S1, mu1, hs, e.go g1, s1, (Post.bind (r := .ok x S1) (f := fun _ S1 => tst pb ρ S1) h1 mu1 H1 g1 s1).2.2⟩
      | true => exact fun mu1 H1 g1 s1 => by simp only [if_true]; exact h1 mu1 H1 g1 s1
  | exc c as S1 => rw [hp] at h1; exact h1
  | bad => rw [hp] at h1; exact h1
theorem t_not {a : Expr} {pos : Pos} {pa : Me} (ha : PT X a (tDt X.K E (tst pa))) : PT X (.UnaryOp .Not a pos) (tDt X.K E (tst (pNot pa))) := by
  refine PT.imp (pt_not ha) fun σ H Q h => ?_
  obtain ⟨ρ, S, mu, hs, e, s, h⟩ := h
  refine ⟨ρ, S, mu, hs, e, s, ?_⟩
  unfold tst pNot at h
  unfold tst
  cases hp : pa ρ S with
  | ok x S1 =>
    rw [hp] at h
    simp only [R.bind] at h ⊢
    cases et : truX S1 x with
    | none => rw [et] at h; exact h
    | some k => rw [et] at h; exact h
  | exc c as S1 => rw [hp] at h; exact h
  | bad => rw [hp] at h; exact h
/-- a if c else b -/
def pIf (pc pa pb : Me) : Me := fun ρ S => (tst pc ρ S).bind fun b S1 => if b then pa ρ S1 else pb ρ S1
theorem e_ife {c a b : Expr} {pos : Pos} {pc pa pb : Me} (hc : PT X c (tDt X.K E (tst pc))) (ha : PE X a (tD X.K E pa)) (hb : PE X b (tD X.K E pb)) : PE X (.IfExp c a b pos) (tD X.K E (pIf pc pa pb)) := by
  refine PE.imp (pe_ifExp hc ha hb) fun σ H Q h => ?_
  obtain ⟨ρ, S, mu, hs, e, s, h⟩ := h
  refine ⟨ρ, S, mu, hs, e, s, Post.mono (Post.bind h) fun x S1 mu1 H1 g1 s1 q => ?_⟩
  obtain ⟨_, _, q⟩ := q
  cases x with
  | true => exact ⟨ρ, S1, mu1, hs, e.go g1, s1, q⟩
  | false => exact ⟨ρ, S1, mu1, hs, e.go g1, s1, q⟩
end
end PB

namespace PB
open PySem PySem.Spec PyProof.Rows L2
variable {Ts : List Addr}

section
variable {K : PySem.W.Frag} {S S' : Sto} {mu mu' hs : List Addr} {H : Hp} {p a : Addr}
theorem get_snoc {α : Type} {l : List α} {x y : α} {r : Nat} (h : (l ++ [x])[r]? = some y) : l[r]? = some y ∨ (r = l.length ∧ y = x) := by
  rcases Nat.lt_trichotomy r l.length with q | q | q
  · rw [List.getElem?_append_left q] at h; exact .inl h
  · subst q
    rw [List.getElem?_append_right (Nat.le_refl _), Nat.sub_self] at h
    exact .inr ⟨rfl, (Option.some.inj h).symm⟩
  · rw [List.getElem?_append_right (Nat.le_of_lt q)] at h
    have : r - l.length ≠ 0 := by omega
    cases z : r - l.length with
    | zero => exact absurd z this
    | succ n => rw [z] at h; cases h
theorem get_snoc_old {α : Type} {l : List α} {x y : α} {r : Nat} (h : l[r]? = some y) : (l ++ [x])[r]? = some y := by
  rw [List.getElem?_append_left (List.getElem?_eq_some_iff.mp h).1]; exact h
theorem get_snoc_new {α : Type} {l : List α} {x : α} : (l ++ [x])[l.length]? = some x := by
  rw [List.getElem?_append_right (Nat.le_refl _), Nat.sub_self]; rfl
/-- what was not live is not live in the grown store -/
theorem live_new (s : StoOk K Ts S mu hs H) (hp : H p = none) {o : MO} (ha : H a ≠ none) (n : ¬ live S mu hs a) : ¬ live (S ++ [o]) (mu ++ [p]) hs a := by
  rintro (h | ⟨r, u, e, m, q⟩)
  · exact n (.inl h)
  · rcases get_snoc e with e | ⟨e, _⟩
    · have hr := (List.getElem?_eq_some_iff.mp e).1
      rw [List.getElem?_append_left (by rw [s.len]; exact hr)] at q
      exact n (.inr ⟨r, u, e, m, q⟩)
    · subst e
      rw [← s.len, get_snoc_new] at q
      cases q
      exact ha hp
theorem Go.newR (s : StoOk K Ts S mu hs H) (hp : H p = none) (o : MO) (h : HO) : Go S mu hs H (S ++ [o]) (mu ++ [p]) (upd H p h) where
  pre := fun _ _ q => get_snoc_old q
  tup := fun a vs h => by rw [upd_ne (ne_of_none h hp)]; exact h
  frz := fun a o u h => by rw [upd_ne (ne_of_none h hp)]; exact h
  tbl := fun a ps h => ⟨#[], by rw [upd_ne (ne_of_none h hp), h]; simp⟩
  stay := fun a u h _ _ => by rw [upd_ne (ne_of_none h hp)]; exact h
  nlv := fun a h n => live_new s hp h n
  hid := fun a _ u h _ => by rw [upd_ne (ne_of_none h hp)]; exact h
  hadn := fun a h => by
    by_cases e : a = p
    · rw [e, upd_same]; exact nofun
    · rw [upd_ne e]; exact h
theorem StoOk.newR (s : StoOk K Ts S mu hs H) (hp : H p = none) {o : MO} {h : HO} (hm : MOk K (live (S ++ [o]) (mu ++ [p]) hs) (mu ++ [p]) (upd H p h) p o) : StoOk K Ts (S ++ [o]) (mu ++ [p]) hs (upd H p h) := by
  have g := Go.newR s hp o h
  have fr : ∀ (r : Nat) (u : MO) (b : Addr), S[r]? = some u → u.mut = true → mu[r]? = some b → b ≠ p := fun r u b e m q z => by
    subst z
    exact s.had (.inr ⟨r, u, e, m, q⟩) hp
  refine ⟨by simp [s.len], fun r r' u u' b e e' m m' q q' => ?_, fun r u b e q => ?_, fun b hb => g.hadn b (s.hid b hb), fun b hb r u e m => ?_, fun P hP => let ⟨ps, e, t⟩ := s.tab P hP; ⟨ps, (upd_ne (ne_of_none e hp)).trans e, t⟩⟩
  · rcases get_snoc e with e1 | ⟨e1, _⟩ <;> rcases get_snoc e' with e2 | ⟨e2, _⟩
    · rw [List.getElem?_append_left (by rw [s.len]; exact (List.getElem?_eq_some_iff.mp e1).1)] at q
      rw [List.getElem?_append_left (by rw [s.len]; exact (List.getElem?_eq_some_iff.mp e2).1)] at q'
      exact s.inj r r' u u' b e1 e2 m m' q q'
    · rw [List.getElem?_append_left (by rw [s.len]; exact (List.getElem?_eq_some_iff.mp e1).1)] at q
      subst e2
      rw [← s.len, get_snoc_new] at q'
      cases q'
      exact absurd rfl (fr r u _ e1 m q)
    · rw [List.getElem?_append_left (by rw [s.len]; exact (List.getElem?_eq_some_iff.mp e2).1)] at q'
      subst e1
      rw [← s.len, get_snoc_new] at q
      cases q
      exact absurd rfl (fr r' u' _ e2 m' q')
    · omega
  · rcases get_snoc e with e1 | ⟨e1, e2⟩
    · rw [List.getElem?_append_left (by rw [s.len]; exact (List.getElem?_eq_some_iff.mp e1).1)] at q
      have k := s.ok r u b e1 q
      refine MOk.go g.keep g.pre (fun _ o' ho => ?_) k
      rw [upd_ne (ne_of_none ho hp)]; exact ho
    · subst e1 e2
      rw [← s.len, get_snoc_new] at q
      cases q
      exact hm
  · intro q
    rcases get_snoc e with e1 | ⟨e1, _⟩
    · rw [List.getElem?_append_left (by rw [s.len]; exact (List.getElem?_eq_some_iff.mp e1).1)] at q
      exact s.hidn b hb r u e1 m q
    · subst e1
      rw [← s.len, get_snoc_new] at q
      cases q
      exact s.hid _ hb hp
theorem get_set {α : Type} {l : List α} {x y : α} {r i : Nat} (h : (l.set r x)[i]? = some y) : (i = r ∧ y = x) ∨ (i ≠ r ∧ l[i]? = some y) := by
  by_cases e : i = r
  · subst e
    by_cases hl : i < l.length
    · rw [List.getElem?_set_self hl] at h; exact .inl ⟨rfl, (Option.some.inj h).symm⟩
    · rw [List.getElem?_eq_none (by simpa using hl)] at h; cases h
  · rw [List.getElem?_set_ne (Ne.symm e)] at h; exact .inr ⟨e, h⟩
theorem live_set {r : Nat} {o o' : MO} (e : S[r]? = some o) (m : o.mut = true) (h : live (S.set r o') mu hs a) : live S mu hs a := by
  rcases h with h | ⟨i, u, ei, mi, q⟩
  · exact .inl h
  · rcases get_set ei with ⟨e1, _⟩ | ⟨_, e1⟩
    · subst e1; exact .inr ⟨i, o, e, m, q⟩
    · exact .inr ⟨i, u, e1, mi, q⟩
/-- an object of those that change -/
def Chg : HO → Prop
  | .lst _ => True
  | .dK _ => True
  | _ => False
theorem Go.chg (s : StoOk K Ts S mu hs H) {r : Nat} {o : MO} (o' : MO) {h0 : HO} (h' : HO) (e : S[r]? = some o) (m : o.mut = true) (q : mu[r]? = some a) (h : H a = some h0) (c : Chg h0) : Go S mu hs H (S.set r o') mu (upd H a h') := by
  have lv : live S mu hs a := .inr ⟨r, o, e, m, q⟩
  have ne : ∀ b u, H b = some u → ¬ Chg u → b ≠ a := fun b u hb nc z => by subst z; rw [h] at hb; cases hb; exact nc c
  exact {
    pre := fun _ _ q => q
    tup := fun b vs hb => by rw [upd_ne (ne b _ hb fun z => z)]; exact hb
    frz := fun b o u hb => by rw [upd_ne (ne b _ hb fun z => z)]; exact hb
    tbl := fun b ps hb => ⟨#[], by rw [upd_ne (ne b _ hb fun z => z), hb]; simp⟩
    stay := fun b u hb _ n => by rw [upd_ne (show b ≠ a from fun z => n (by rw [z]; exact lv))]; exact hb
    nlv := fun b _ n z => n (live_set e m z)
    hid := fun b hb u hu _ => by rw [upd_ne (show b ≠ a from fun z => s.hidn b hb r o e m (by rw [z]; exact q))]; exact hu
    hadn := fun b hb => by
      by_cases z : b = a
      · rw [z, upd_same]; exact nofun
      · rw [upd_ne z]; exact hb }
theorem StoOk.chg (s : StoOk K Ts S mu hs H) {r : Nat} {o o' : MO} {h0 h' : HO} (e : S[r]? = some o) (m : o.mut = true) (m' : o'.mut = true) (q : mu[r]? = some a) (h : H a = some h0) (c : Chg h0)
    (hm : MOk K (live (S.set r o') mu hs) mu (upd H a h') a o') : StoOk K Ts (S.set r o') mu hs (upd H a h') := by
  have g := Go.chg s o' h' e m q h c
  have cvt : ∀ (i : Nat) (u : MO) (b : Addr), (S.set r o')[i]? = some u → u.mut = true → ∃ u', S[i]? = some u' ∧ u'.mut = true := fun i u b ei mi => by
    rcases get_set ei with ⟨e1, e2⟩ | ⟨_, e1⟩
    · subst e1; exact ⟨o, e, m⟩
    · exact ⟨u, e1, mi⟩
  refine ⟨by simp [s.len], fun i i' u u' b ei ei' mi mi' qi qi' => ?_, fun i u b ei qi => ?_, fun b hb => g.hadn b (s.hid b hb), fun b hb i u ei mi qi => ?_, fun P hP => let ⟨ps, e', t⟩ := s.tab P hP; ⟨ps, (upd_ne (fun z => by subst z; rw [h] at e'; cases e'; exact c)).trans e', t⟩⟩
  · obtain ⟨v, e1, m1⟩ := cvt i u b ei mi
    obtain ⟨v', e2, m2⟩ := cvt i' u' b ei' mi'
    exact s.inj i i' v v' b e1 e2 m1 m2 qi qi'
  · rcases get_set ei with ⟨e1, e2⟩ | ⟨e1, e2⟩
    · subst e1 e2
      rw [q] at qi; cases qi
      exact hm
    · have k := s.ok i u b e2 qi
      refine MOk.go g.keep (fun _ _ z => z) (fun mu' w hw => ?_) k
      have : b ≠ a := fun z => e1 (s.inj i r u o b e2 e mu' m qi (by rw [z]; exact q))
      rw [upd_ne this]; exact hw
  · obtain ⟨v, e1, m1⟩ := cvt i u b ei mi
    exact s.hidn b hb i v e1 m1 qi
theorem Go.kill {r : Nat} {o : MO} (e : S[r]? = some o) (m : o.mut = true) : Go S mu hs H (S.set r .dead) mu H where
  pre := fun _ _ q => q
  tup := fun _ _ h => h
  frz := fun _ _ _ h => h
  tbl := fun _ ps h => ⟨#[], by rw [h]; simp⟩
  stay := fun _ _ h _ _ => h
  nlv := fun b _ n z => n (live_set e m z)
  hid := fun _ _ _ h _ => h
  hadn := fun _ h => h
theorem StoOk.kill (s : StoOk K Ts S mu hs H) {r : Nat} {o : MO} (e : S[r]? = some o) (m : o.mut = true) : StoOk K Ts (S.set r .dead) mu hs H := by
  have g := Go.kill (mu := mu) (hs := hs) (H := H) e m
  have cvt : ∀ (i : Nat) (u : MO), (S.set r .dead)[i]? = some u → u.mut = true → S[i]? = some u := fun i u ei mi => by
    rcases get_set ei with ⟨_, e2⟩ | ⟨_, e1⟩
    · subst e2; cases mi
    · exact e1
  refine ⟨by simp [s.len], fun i i' u u' b ei ei' mi mi' qi qi' => s.inj i i' u u' b (cvt i u ei mi) (cvt i' u' ei' mi') mi mi' qi qi', fun i u b ei qi => ?_, s.hid, fun b hb i u ei mi qi => s.hidn b hb i u (cvt i u ei mi) mi qi, s.tab⟩
  rcases get_set ei with ⟨e1, e2⟩ | ⟨e1, e2⟩
  · subst e2; trivial
  · exact MOk.go g.keep (fun _ _ z => z) (fun _ _ hw => hw) (s.ok i u b e2 qi)
theorem dead_not (s : StoOk K Ts S mu hs H) {r : Nat} {o : MO} (e : S[r]? = some o) (m : o.mut = true) (q : mu[r]? = some a) : ¬ live (S.set r .dead) mu hs a := by
  rintro (h | ⟨i, u, ei, mi, qi⟩)
  · exact s.hidn a h r o e m q
  · rcases get_set ei with ⟨_, e2⟩ | ⟨e1, e2⟩
    · subst e2; cases mi
    · exact e1 (s.inj i r u o a e2 e mi m qi q)
theorem live_take {n : Nat} (h : live (S.take n) (mu.take n) hs a) : live S mu hs a := by
  rcases h with h | ⟨i, u, ei, mi, q⟩
  · exact .inl h
  · refine .inr ⟨i, u, ?_, mi, ?_⟩
    · rw [List.getElem?_take] at ei; split at ei
      · exact ei
      · cases ei
    · rw [List.getElem?_take] at q; split at q
      · exact q
      · cases q
end
def pNil : Mes := fun _ S => .ok [] S
def pCons (p : Me) (q : Mes) : Mes := fun ρ S => (p ρ S).bind fun x S1 => (q ρ S1).bind fun xs S2 => .ok (x :: xs) S2
def pTup (q : Mes) : Me := fun ρ S => (q ρ S).bind fun xs S1 => match allD xs with
  | some ds => .ok (.d (.tuple ds)) S1
  | none => .bad
def pLst (q : Mes) : Me := fun ρ S => (q ρ S).bind fun xs S1 => match allD xs with
  | some ds => .ok (.d (.list ds)) S1
  | none => .bad
def pLstR (q : Mes) : Me := fun ρ S => (q ρ S).bind fun xs S1 => .ok (.r S1.length) (S1 ++ [.lst xs])
theorem allD_length : ∀ {xs : List Xv} {ds : List D}, allD xs = some ds → ds.length = xs.length
  | [], _, h => by cases h; rfl
  | .d a :: r, ds, h => by
    unfold allD at h
    cases z : allD r with
    | none => rw [z] at h; cases h
    | some es =>
      rw [z] at h; cases h
      simp [allD_length z]
  | .r _ :: _, _, h => by cases h
section
variable {X : Cx} {E : XW}
theorem a_nil : PA X [] (tDs X.K E pNil) := PA.imp pa_nil fun σ H Q h => by
  obtain ⟨ρ, S, mu, hs, e, s, h⟩ := h
  exact h.here s [] .nil
theorem a_cons {e : Expr} {es : List Expr} {p : Me} {q : Mes} (h1 : PE X e (tD X.K E p)) (h2 : PA X es (tDs X.K E q)) (hs : starEach (e :: es) X.env = (false, eval e X.env) :: starEach es X.env) : PA X (e :: es) (tDs X.K E (pCons p q)) :=
  PA.imp (pa_cons h1 h2 hs) fun σ H Q h => by
    obtain ⟨ρ, S, mu, hs, e, s, h⟩ := h
    refine ⟨ρ, S, mu, hs, e, s, Post.mono (Post.bind h) fun x S1 mu1 H1 g1 s1 q v hv => ?_⟩
    obtain ⟨_, _, q⟩ := q
    refine ⟨ρ, S1, mu1, hs, e.go g1, s1, Post.mono (Post.bind q) fun xs S2 mu2 H2 g2 s2 q2 vs hvs => ?_⟩
    obtain ⟨_, _, q2⟩ := q2
    exact q2.here s2 (v :: vs) (.cons (hv.go g2) hvs)
theorem e_tup {es : List Expr} {k : Nat} {pos : Pos} {q : Mes} (hq : PA X es (tDs X.K E q)) (hl : ∀ ρ S xs S', q ρ S = .ok xs S' → xs.length ≤ sizeLine) : PE X (.Tuple es k pos) (tD X.K E (pTup q)) :=
  PE.imp (pe_tup hq) fun σ H Q h => by
    obtain ⟨ρ, S, mu, hs, e, s, h⟩ := h
    refine ⟨ρ, S, mu, hs, e, s, Post.mono' (Post.bind h) fun xs S1 mu1 H1 ex g1 s1 z vs hvs => ?_⟩
    obtain ⟨_, _, z⟩ := z
    have l := hl _ _ _ _ ex
    have l2 := Paired.length hvs
    cases ea : allD xs with
    | none => rw [ea] at z; exact z.elim
    | some ds =>
      rw [ea] at z
      refine ⟨by omega, fun p hp => post_new s1 z hp ?_⟩
      have k := (Go.laid s1 hp (.tup vs)).keep (K := X.K)
      unfold DenD
      exact ⟨p, vs, rfl, .inl (.inl upd_same), by rw [allD_length ea]; exact l, DenL.keep k _ _ (DenXs.allD hvs ea)⟩
theorem e_lst {es : List Expr} {pos : Pos} {q : Mes} (hq : PA X es (tDs X.K E q)) (hl : ∀ ρ S xs S', q ρ S = .ok xs S' → xs.length ≤ sizeLine) : PE X (.List es pos) (tD X.K E (pLst q)) :=
  PE.imp (pe_lst hq) fun σ H Q h => by
    obtain ⟨ρ, S, mu, hs, e, s, h⟩ := h
    refine ⟨ρ, S, mu, hs, e, s, Post.mono' (Post.bind h) fun xs S1 mu1 H1 ex g1 s1 z vs hvs => ?_⟩
    obtain ⟨_, _, z⟩ := z
    have l := hl _ _ _ _ ex
    have l2 := Paired.length hvs
    cases ea : allD xs with
    | none => rw [ea] at z; exact z.elim
    | some ds =>
      rw [ea] at z
      refine ⟨by omega, fun p hp => post_new s1 z hp ?_⟩
      have k := (Go.laid s1 hp (.lst vs)).keep (K := X.K)
      unfold DenD
      exact ⟨p, vs, rfl, upd_same, s1.fresh hp, by rw [allD_length ea]; exact l, DenL.keep k _ _ (DenXs.allD hvs ea)⟩
/-- a new place as a value -/
theorem post_ref {K : PySem.W.Frag} {S : Sto} {mu hs : List Addr} {H : Hp} {Q : VK} {o : MO} {h : HO} {p : Addr} (s : StoOk K E.ts S mu hs H) (hp : H p = none) (hm : MOk K (live (S ++ [o]) (mu ++ [p]) hs) (mu ++ [p]) (upd H p h) p o)
    (q : Post K E S mu hs H (fun z S' mu' H' => ∀ v, DenX K (live S' mu' hs) mu' H' z v → Q v H') (.ok (.r S.length) (S ++ [o]))) : Q (.ref p) (upd H p h) :=
  q _ _ (Go.newR s hp o h) (s.newR hp hm) _ ⟨p, rfl, by rw [← s.len]; exact get_snoc_new⟩
theorem e_lstR {es : List Expr} {pos : Pos} {q : Mes} (hq : PA X es (tDs X.K E q)) (hl : ∀ ρ S xs S', q ρ S = .ok xs S' → xs.length ≤ sizeLine) : PE X (.List es pos) (tD X.K E (pLstR q)) :=
  PE.imp (pe_lst hq) fun σ H Q h => by
    obtain ⟨ρ, S, mu, hs, e, s, h⟩ := h
    refine ⟨ρ, S, mu, hs, e, s, Post.mono' (Post.bind h) fun xs S1 mu1 H1 ex g1 s1 z vs hvs => ?_⟩
    obtain ⟨_, _, z⟩ := z
    have l := hl _ _ _ _ ex
    have l2 := Paired.length hvs
    exact ⟨by omega, fun p hp => post_ref (o := .lst xs) (h := .lst vs) s1 hp ⟨l, vs, upd_same, hvs.go (Go.newR s1 hp _ _)⟩ z⟩
end
end PB

namespace PB
open PySem PySem.Spec PyProof.Rows L2
variable {Ts : List Addr}

section
variable {X : Cx} {K : PySem.W.Frag} {E : XW} {lv : Addr → Prop} {S : Sto} {mu hs : List Addr} {H : Hp}
theorem DenXs.get {xs : List Xv} {vs : List V} {i : Nat} {x : Xv} (h : DenXs K lv mu H xs vs) (e : xs[i]? = some x) : ∃ v, vs[i]? = some v ∧ DenX K lv mu H x v := by
  induction h generalizing i with
  | nil => cases e
  | cons q t ih =>
    cases i with
    | zero => cases e; exact ⟨_, rfl, q⟩
    | succ i => exact ih (by simpa using e)
theorem atI_same {α β : Type} {xs : List α} {ys : List β} {i : Int} {x : α} (hl : xs.length = ys.length) (h : atI xs i = some x) : ∃ j : Nat, xs[j]? = some x ∧ atI ys i = ys[j]? := by
  unfold atI at h ⊢
  cases e : ixN xs.length i with
  | none => rw [e] at h; cases h
  | some j =>
    rw [e] at h
    exact ⟨j, h, by rw [← hl, e]; rfl⟩
theorem DenXs.atI {xs : List Xv} {vs : List V} {i : Int} {x : Xv} (h : DenXs K lv mu H xs vs) (e : atI xs i = some x) : ∃ v, L2.atI vs i = some v ∧ DenX K lv mu H x v := by
  obtain ⟨j, e1, e2⟩ := atI_same (Paired.length h) e
  obtain ⟨v, e3, q⟩ := h.get e1
  exact ⟨v, e2.trans e3, q⟩
theorem DenL.atI {xs : List D} {vs : List V} {i : Int} {x : D} (h : DenL K lv H xs vs) (e : atI xs i = some x) : ∃ v, L2.atI vs i = some v ∧ DenD K lv H x v := by
  obtain ⟨j, e1, e2⟩ := atI_same h.length e
  obtain ⟨v, e3, q⟩ := h.get e1
  exact ⟨v, e2.trans e3, q⟩

/-- a dict's item -/
theorem ix_dict (hu : X.A.units + 1 < cLine) : IxR X (fun x y H Q => ∃ a v, x = .ref a ∧ DGet H a y (some v) ∧ Q v H) := by
  intro value slice pins s σ H x y v u Q I rx ry h hs
  obtain ⟨a, z, rfl, g, q⟩ := h
  obtain rfl : v = Value.ref a := rx
  exact tail_any (dict_typeIs I g) PySem.F.slot_dict_getitem.lookup (d_getItem hu I g ry fun w' s3 I3 rw' => ⟨z, H, I3, rw', q⟩) hs
end

def pIx (x y : Xv) (S : Sto) : R Xv := match x, y with
  | .d (.tuple ds), .d (.int i) => (match atI ds i with | some d => .ok (.d d) S | none => .bad)
  | .d (.list ds), .d (.int i) => (match atI ds i with | some d => .ok (.d d) S | none => .bad)
  | .d (.str z), .d (.int i) => if z.length ≤ sizeLine then (match atI z.cps.toList i with | some c => .ok (.d (.str ⟨#[c]⟩)) S | none => .bad) else .bad
  | .r n, .d d => (match S[n]? with
    | some (.lst xs) => (match d with
      | .int i => (match atI xs i with | some z => .ok z S | none => .bad)
      | _ => .bad)
    | some (.rol xs) => (match d with
      | .int i => (match atI xs i with | some z => .ok z S | none => .bad)
      | _ => .bad)
    | some (.dct kvs) => (match keyD d with
      | some k => (match kvGet kvs k with | some z => .ok z S | none => .bad)
      | none => .bad)
    | _ => .bad)
  | _, _ => .bad
section
variable {X : Cx} {E : XW}
theorem den_str {K : PySem.W.Frag} {lv : Addr → Prop} {mu : List Addr} {H : Hp} {z : Str} {v : V} (h : DenX K lv mu H (.d (.str z)) v) : v = .str z := by unfold DenX DenD at h; exact h
theorem e_ix {a b : Expr} {pos : Pos} {pa pb : Me} (hu : X.A.units + 100 < cLine) (ha : PE X a (tD X.K E pa)) (hb : PE X b (tD X.K E pb)) (hp : PlainIx b) :
    PE X (.Subscript a b pos) (tD X.K E fun ρ S => (pa ρ S).bind fun x S1 => (pb ρ S1).bind fun y S2 => pIx x y S2) := by
  refine PE.imp (pe_ix (IxR.or ix_list (IxR.or ix_tup (IxR.or ix_str (ix_dict (by omega))))) ha hb hp) fun σ H Q h => tD_op (fun x y S mu hs H v u Q s hx hy h => ?_) h
  unfold pIx at h
  split at h
  · rename_i ds i
    obtain ⟨a, vs, rfl, q1, _, r1⟩ := den_tuple hx
    split at h
    · rename_i d e
      obtain ⟨w, e1, q⟩ := r1.atI e
      exact .inr (.inl ⟨a, vs, i, w, rfl, den_int hy, q1, e1, h.here s w q⟩)
    · exact h.elim
  · rename_i ds i
    obtain ⟨a, vs, rfl, q1, _, _, r1⟩ := den_list hx
    split at h
    · rename_i d e
      obtain ⟨w, e1, q⟩ := r1.atI e
      exact .inl ⟨a, vs, i, w, rfl, den_int hy, .inl (.inl q1), e1, h.here s w q⟩
    · exact h.elim
  · rename_i z i
    split at h
    · rename_i hl
      split at h
      · rename_i c e
        exact .inr (.inr (.inl ⟨z, i, c, den_str hx, den_int hy, hl, e, post_d s h str_den⟩))
      · exact h.elim
    · exact h.elim
  · rename_i n d
    obtain ⟨p, rfl, hp⟩ := hx
    split at h
    · rename_i xs es
      split at h
      · rename_i i
        split at h
        · rename_i z e
          obtain ⟨_, vs, hv, hk⟩ := s.ok n _ p es hp
          obtain ⟨w, e1, q⟩ := DenXs.atI hk e
          exact .inl ⟨p, vs, i, w, rfl, den_int hy, .inl (.inl hv), e1, h.here s w q⟩
        · exact h.elim
      · exact h.elim
    · rename_i xs es
      split at h
      · rename_i i
        split at h
        · rename_i z e
          obtain ⟨_, vs, hv, hk⟩ := s.ok n _ p es hp
          obtain ⟨w, e1, q⟩ := DenXs.atI hk e
          exact .inl ⟨p, vs, i, w, rfl, den_int hy, rol_sq hv, e1, h.here s w q⟩
        · exact h.elim
      · exact h.elim
    · rename_i kvs es
      split at h
      · rename_i k ek
        split at h
        · rename_i z e
          obtain ⟨ws, hw, hk⟩ := s.ok n _ p es hp
          obtain ⟨w, e1, q⟩ := valV_den hk e
          have ey := keyD_den hy ek
          refine .inr (.inr (.inr ⟨p, w, rfl, ?_, h.here s w q⟩))
          rw [ey, ← e1]
          exact DGet.k hw
        · exact h.elim
      · exact h.elim
    · exact h.elim
  · exact h.elim

def partI : Option Xv → Option (Option Int)
  | none => some none
  | some (.d (.int i)) => some (some i)
  | some _ => none
def cutD {α : Type} (xs : List α) (lo hi : Option Int) : List α := (xs.drop (HT.sIx xs.length 0 lo)).take (HT.sIx xs.length xs.length hi - HT.sIx xs.length 0 lo)
def pSl (x : Xv) (lo hi : Option Int) (S : Sto) : R Xv := match x with
  | .d (.tuple ds) => .ok (.d (.tuple (cutD ds lo hi))) S
  | .d (.list ds) => .ok (.d (.list (cutD ds lo hi))) S
  | .r n => (match S[n]? with
    | some (.lst xs) => (match allD xs with
      | some ds => .ok (.d (.list (cutD ds lo hi))) S
      | none => .bad)
    | _ => .bad)
  | _ => .bad
/-- a slice's part -/
def tDo (K : PySem.W.Frag) (E : XW) (p : Env0' → Sto → R (Option Int)) : TO := fun σ H Q => ∃ ρ S mu hs, EnvOk K (live S mu hs) mu H ρ σ ∧ StoOk K E.ts S mu hs H ∧
  Post K E S mu hs H (fun o S' mu' H' => Q o H') (p ρ S)
def pPart0 : Env0' → Sto → R (Option Int) := fun _ S => .ok none S
def pPart (p : Me) : Env0' → Sto → R (Option Int) := fun ρ S => (p ρ S).bind fun x S1 => match x with
  | .d (.int i) => .ok (some i) S1
  | _ => .bad
theorem o_none : PO X none (tDo X.K E pPart0) := ⟨fun pins s σ H Q I h => (po_none (X := X)).run pins s σ H Q I (by
  obtain ⟨ρ, S, mu, hs, e, s, h⟩ := h
  exact h.here s)⟩
theorem o_some {e : Expr} {p : Me} (h : PE X e (tD X.K E p)) : PO X (some e) (tDo X.K E (pPart p)) := ⟨fun pins s σ H Q I q => (po_some h).run pins s σ H Q I (by
  obtain ⟨ρ, S, mu, hs, e, s, q⟩ := q
  refine ⟨ρ, S, mu, hs, e, s, Post.mono (Post.bind q) fun x S1 mu1 H1 g1 s1 z v hv => ?_⟩
  obtain ⟨_, _, z⟩ := z
  split at z
  · exact ⟨_, den_int hv, z.here s1⟩
  · exact z.elim)⟩
def pSlice (pa : Me) (pl ph : Env0' → Sto → R (Option Int)) : Me := fun ρ S => (pa ρ S).bind fun x S1 => (pl ρ S1).bind fun lo S2 => (ph ρ S2).bind fun hi S3 => pSl x lo hi S3
theorem cutD_le {α : Type} (xs : List α) (lo hi : Option Int) : (cutD xs lo hi).length ≤ xs.length := by
  unfold cutD
  rw [List.length_take, List.length_drop]; omega
theorem DenL.cut {K : PySem.W.Frag} {lv : Addr → Prop} {H : Hp} {ds : List D} {vs : List V} (h : DenL K lv H ds vs) (lo hi : Option Int) : DenL K lv H (cutD ds lo hi) (cutV vs lo hi) := by
  unfold cutD cutV
  rw [← h.length]
  exact (h.drop _).take _
theorem cut_all {α : Type} {xs : List α} {lo hi : Option Int} (h : HT.sIx xs.length 0 lo = 0 ∧ HT.sIx xs.length xs.length hi = xs.length) : cutD xs lo hi = xs := by
  unfold cutD
  rw [h.1, h.2]; simp
theorem e_slice {a : Expr} {lo hi : Option Expr} {pos p2 : Pos} {pa : Me} {pl ph : Env0' → Sto → R (Option Int)} (ha : PE X a (tD X.K E pa)) (hl : PO X lo (tDo X.K E pl)) (hh : PO X hi (tDo X.K E ph)) :
    PE X (.Subscript a (.Slice lo hi none p2) pos) (tD X.K E (pSlice pa pl ph)) := by
  refine PE.imp (pe_slice (SlR.or sl_list sl_tupA) ha hl hh) fun σ H Q h => ?_
  obtain ⟨ρ, S, mu, hs, e, s, h⟩ := h
  refine ⟨ρ, S, mu, hs, e, s, Post.mono (Post.bind h) fun x S1 mu1 H1 g1 s1 z v hv => ?_⟩
  obtain ⟨_, _, z⟩ := z
  refine ⟨ρ, S1, mu1, hs, e.go g1, s1, Post.mono (Post.bind z) fun l S2 mu2 H2 g2 s2 z => ?_⟩
  obtain ⟨_, _, z⟩ := z
  refine ⟨ρ, S2, mu2, hs, (e.go g1).go g2, s2, Post.mono (Post.bind z) fun u S3 mu3 H3 g3 s3 z => ?_⟩
  obtain ⟨_, _, z⟩ := z
  have hv := (hv.go g2).go g3
  unfold pSl at z
  split at z
  · rename_i ds
    obtain ⟨a, vs, rfl, q1, l1, r1⟩ := den_tuple hv
    refine .inr ⟨a, vs, rfl, q1, fun hw => ?_, fun hw p hp => ?_⟩
    · rw [← r1.length] at hw
      rw [cut_all hw] at z
      exact z.here s3 _ hv
    · refine post_new s3 z hp ?_
      have k := (Go.laid s3 hp (.tup (cutV vs l u))).keep (K := X.K)
      unfold DenD
      exact ⟨p, _, rfl, .inl (.inl upd_same), Nat.le_trans (cutD_le _ _ _) l1, DenL.keep k _ _ (r1.cut l u)⟩
  · rename_i ds
    obtain ⟨a, vs, rfl, q1, n1, l1, r1⟩ := den_list hv
    refine .inl ⟨a, vs, rfl, .inl (.inl q1), fun p hp => post_new s3 z hp ?_⟩
    have k := (Go.laid s3 hp (.lst (cutV vs l u))).keep (K := X.K)
    unfold DenD
    exact ⟨p, _, rfl, upd_same, s3.fresh hp, Nat.le_trans (cutD_le _ _ _) l1, DenL.keep k _ _ (r1.cut l u)⟩
  · rename_i n
    obtain ⟨a, rfl, hp⟩ := hv
    split at z
    · rename_i xs es
      split at z
      · rename_i ds ea
        obtain ⟨l1, vs, hv, hk⟩ := s3.ok _ _ a es hp
        have r1 := DenXs.allD hk ea
        refine .inl ⟨a, vs, rfl, .inl (.inl hv), fun p hp => post_new s3 z hp ?_⟩
        have k := (Go.laid s3 hp (.lst (cutV vs l u))).keep (K := X.K)
        unfold DenD
        exact ⟨p, _, rfl, upd_same, s3.fresh hp, Nat.le_trans (cutD_le _ _ _) (by rw [allD_length ea]; exact l1), DenL.keep k _ _ (r1.cut l u)⟩
      · exact z.elim
    · exact z.elim
  · exact z.elim
end
end PB

namespace PB
open PySem PySem.Spec PyProof.Rows L2
variable {Ts : List Addr}

inductive Ty | int | bool | tuple | list | str | dict | non
  deriving DecidableEq
def Ty.nm : Ty → String
  | .int => "int" | .bool => "bool" | .tuple => "tuple" | .list => "list" | .str => "str" | .dict => "dict" | .non => "NoneType"
def tyD : D → Ty
  | .none => .non | .bool _ => .bool | .int _ => .int | .str _ => .str | .tuple _ => .tuple | .list _ => .list | .dict _ => .dict
def tyX (S : Sto) : Xv → Option Ty
  | .d a => some (tyD a)
  | .r n => match S[n]? with
    | some (.lst _) => some .list
    | some (.rol _) => some .list
    | some (.dct _) => some .dict
    | _ => none
def isiB (a b : Ty) : Bool := decide (a = b) || (decide (a = .bool) && decide (b = .int))
theorem kit_all : ∀ a b : Ty, kitB a.nm b.nm = some (isiB a b) := by
  intro a b
  cases a <;> cases b <;> decide +kernel
section
variable {X : Cx} {K : PySem.W.Frag} {E : XW} {S : Sto} {mu hs : List Addr} {H : Hp}
theorem tyX_of (s : StoOk K Ts S mu hs H) {x : Xv} {v : V} {t : Ty} (h : DenX K (live S mu hs) mu H x v) (e : tyX S x = some t) : TyX K H v (.type t.nm) := by
  cases x with
  | d a =>
    have e : tyD a = t := Option.some.inj e
    subst e
    cases a with
    | none => unfold DenX DenD at h; subst h; exact .base .non
    | bool b => unfold DenX DenD at h; subst h; exact .base (.bl b)
    | int i => unfold DenX DenD at h; subst h; exact .base (.int i)
    | str z => unfold DenX DenD at h; subst h; exact .base (.str z)
    | tuple xs =>
      obtain ⟨a, vs, rfl, q, _⟩ := den_tuple h
      rcases q with (q | ⟨o, q⟩) | ⟨o, its, n, q, c, _⟩
      · exact .base (.tup q)
      · exact .fTuple q
      · exact .kTuple q c
    | list xs =>
      obtain ⟨a, vs, rfl, q, _⟩ := den_list h
      exact .base (.lst q)
    | dict _ => unfold DenX DenD at h; exact h.elim
  | r n =>
    obtain ⟨a, rfl, q⟩ := h
    cases z : S[n]? with
    | none => simp only [tyX, z] at e; cases e
    | some o =>
      have k := s.ok n _ a z q
      cases o with
      | lst xs =>
        simp only [tyX, z] at e
        cases e
        obtain ⟨_, vs, e1, _⟩ := k
        exact .base (.lst e1)
      | rol xs =>
        simp only [tyX, z] at e
        cases e
        obtain ⟨_, vs, e1, _⟩ := k
        rcases e1 with ⟨e1 | ⟨o, e1⟩, _⟩ | ⟨o, its, n, e1, c, _⟩
        · exact .base (.lst e1)
        · exact .base (.frz e1)
        · exact .kList e1 c
      | dct kvs =>
        simp only [tyX, z] at e
        cases e
        obtain ⟨ws, e1, _⟩ := k
        exact .base (.dK e1)
      | dead => simp only [tyX, z] at e; cases e
/-- what is asked of a call with values -/
def rB (K : PySem.W.Frag) (E : XW) (f : List Xv → Sto → R Xv) : List V → Hp → VK → Prop := fun vs H Q => ∃ (xs : List Xv) (S : Sto) (mu hs : List Addr), StoOk K E.ts S mu hs H ∧ DenXs K (live S mu hs) mu H xs vs ∧
  Post K E S mu hs H (fun z S' mu' H' => ∀ v, DenX K (live S' mu' hs) mu' H' z v → Q v H') (f xs S)
def pCall (f : List Xv → Sto → R Xv) (q : Mes) : Me := fun ρ S => (q ρ S).bind fun xs S1 => f xs S1
theorem tCB_red {f : List Xv → Sto → R Xv} {q : Mes} {σ : L2.St} {Q : VK} (h : tD K E (pCall f q) σ H Q) : tCB (rB K E f) (tDs K E q) σ H Q := by
  obtain ⟨ρ, S, mu, hs, e, s, h⟩ := h
  refine ⟨ρ, S, mu, hs, e, s, Post.mono (Post.bind h) fun xs S1 mu1 H1 g1 s1 z vs hvs => ?_⟩
  exact ⟨xs, S1, mu1, hs, s1, hvs, z.2.2⟩
theorem CallR.imp {f : Value} {r r' : List V → Hp → VK → Prop} (h : CallR X f r) (hi : ∀ vs H Q, r' vs H Q → r vs H Q) : CallR X f r' := fun pins s σ H xs us Q I rv q => h pins s σ H xs us Q I rv (hi xs H Q q)
theorem CallR.or {f : Value} {r r' : List V → Hp → VK → Prop} (h : CallR X f r) (h' : CallR X f r') : CallR X f (fun vs H Q => r vs H Q ∨ r' vs H Q) := fun pins s σ H xs us Q I rv q => by
  rcases q with q | q
  · exact h pins s σ H xs us Q I rv q
  · exact h' pins s σ H xs us Q I rv q
theorem pair1 {x : Xv} {lv : Addr → Prop} {vs : List V} (h : DenXs K lv mu H [x] vs) : ∃ v, vs = [v] ∧ DenX K lv mu H x v := by
  cases h with
  | cons q t => cases t; exact ⟨_, rfl, q⟩
theorem pair2 {x y : Xv} {lv : Addr → Prop} {vs : List V} (h : DenXs K lv mu H [x, y] vs) : ∃ v u, vs = [v, u] ∧ DenX K lv mu H x v ∧ DenX K lv mu H y u := by
  cases h with
  | cons q t =>
    obtain ⟨u, rfl, z⟩ := pair1 t
    exact ⟨_, u, rfl, q, z⟩

def fLen : List Xv → Sto → R Xv
  | [x], S => (match lenX S x with
    | some n => .ok (.d (.int n)) S
    | none => .bad)
  | _, _ => .bad
theorem c_len : CallR X (.builtin "len") (rB X.K E fLen) := CallR.imp (CallR.or call_len call_lenD) fun vs H Q h => by
  obtain ⟨xs, S, mu, hs, s, hx, h⟩ := h
  unfold fLen at h
  split at h
  · rename_i x
    obtain ⟨v, rfl, q⟩ := pair1 hx
    cases el : lenX S x with
    | none => rw [el] at h; exact h.elim
    | some n =>
      rw [el] at h
      have hq := post_d s h int_den
      cases x with
      | d a =>
        cases a with
        | str z =>
          simp only [lenX] at el
          split at el
          · rename_i hl; cases el; exact .inl ⟨v, _, rfl, by rw [den_str q]; exact ⟨hl, rfl⟩, hq⟩
          · cases el
        | tuple ds =>
          cases el
          obtain ⟨p, us, rfl, q1, _, r1⟩ := den_tuple q
          exact .inl ⟨_, _, rfl, .inr ⟨us, q1, r1.length⟩, hq⟩
        | list ds =>
          cases el
          obtain ⟨p, us, rfl, q1, _, _, r1⟩ := den_list q
          exact .inl ⟨_, _, rfl, .inl ⟨us, .inl (.inl q1), r1.length⟩, hq⟩
        | _ => cases el
      | r n =>
        obtain ⟨p, rfl, hp⟩ := q
        cases z : S[n]? with
        | none => simp only [lenX, z] at el; cases el
        | some o =>
          have k := s.ok n _ p z hp
          cases o with
          | lst ys =>
            simp only [lenX, z] at el; cases el
            obtain ⟨_, us, e1, q1⟩ := k
            exact .inl ⟨_, _, rfl, .inl ⟨us, .inl (.inl e1), Paired.length q1⟩, hq⟩
          | rol ys =>
            simp only [lenX, z] at el; cases el
            obtain ⟨_, us, e1, q1⟩ := k
            exact .inl ⟨_, _, rfl, .inl ⟨us, rol_sq e1, Paired.length q1⟩, hq⟩
          | dct kvs =>
            simp only [lenX, z] at el; cases el
            obtain ⟨ws, e1, q1⟩ := k
            refine .inr ⟨p, ws, rfl, e1, ?_⟩
            have := Paired.length q1
            rw [← this]; exact hq
          | dead => simp only [lenX, z] at el; cases el
  · exact h.elim

def seqX (S : Sto) : Xv → Option (List D)
  | .d (.tuple ds) => some ds
  | .d (.list ds) => some ds
  | .r n => match S[n]? with
    | some (.lst xs) => allD xs
    | some (.rol xs) => allD xs
    | _ => none
  | _ => none
theorem seqX_of (s : StoOk K Ts S mu hs H) {x : Xv} {v : V} {ds : List D} (h : DenX K (live S mu hs) mu H x v) (e : seqX S x = some ds) :
    ∃ p vs, v = .ref p ∧ (SqL K H p vs ∨ SqT K H p vs) ∧ ds.length ≤ sizeLine ∧ DenL K (live S mu hs) H ds vs := by
  cases x with
  | d a =>
    cases a with
    | tuple xs => cases e; obtain ⟨p, vs, rfl, q, l, r⟩ := den_tuple h; exact ⟨p, vs, rfl, .inr q, l, r⟩
    | list xs => cases e; obtain ⟨p, vs, rfl, q, n, l, r⟩ := den_list h; exact ⟨p, vs, rfl, .inl (.inl (.inl q)), l, r⟩
    | _ => cases e
  | r n =>
    obtain ⟨p, rfl, hp⟩ := h
    cases z : S[n]? with
    | none => simp only [seqX, z] at e; cases e
    | some o =>
      have k := s.ok n _ p z hp
      cases o with
      | lst ys =>
        simp only [seqX, z] at e
        obtain ⟨l, us, e1, q1⟩ := k
        exact ⟨p, us, rfl, .inl (.inl (.inl e1)), by rw [allD_length e]; exact l, DenXs.allD q1 e⟩
      | rol ys =>
        simp only [seqX, z] at e
        obtain ⟨l, us, e1, q1⟩ := k
        exact ⟨p, us, rfl, .inl (rol_sq e1), by rw [allD_length e]; exact l, DenXs.allD q1 e⟩
      | dct kvs => simp only [seqX, z] at e; cases e
      | dead => simp only [seqX, z] at e; cases e
def fTup : List Xv → Sto → R Xv
  | [x], S => (match seqX S x with
    | some ds => .ok (.d (.tuple ds)) S
    | none => .bad)
  | _, _ => .bad
theorem c_tup : CallR X (.type "tuple") (rB X.K E fTup) := CallR.imp call_tuple_of fun vs H Q h => by
  obtain ⟨xs, S, mu, hs, s, hx, h⟩ := h
  unfold fTup at h
  split at h
  · rename_i x
    obtain ⟨v, rfl, q⟩ := pair1 hx
    cases el : seqX S x with
    | none => rw [el] at h; exact h.elim
    | some ds =>
      rw [el] at h
      obtain ⟨p, us, rfl, hq, l, r⟩ := seqX_of s q el
      refine ⟨p, us, rfl, ?_⟩
      rcases hq with hq | hq
      · refine .inl ⟨hq, fun l2 hl => post_new s h hl ?_⟩
        have k := (Go.laid s hl (.tup us)).keep (K := X.K)
        unfold DenD
        exact ⟨l2, us, rfl, .inl (.inl upd_same), l, DenL.keep k _ _ r⟩
      · refine .inr ⟨hq, post_d s h ?_⟩
        unfold DenD
        exact ⟨p, us, rfl, hq, l, r⟩
  · exact h.elim
def fLst : List Xv → Sto → R Xv
  | [x], S => (match seqX S x with
    | some ds => .ok (.d (.list ds)) S
    | none => .bad)
  | _, _ => .bad
theorem c_lst : CallR X (.type "list") (rB X.K E fLst) := CallR.imp call_list_of fun vs H Q h => by
  obtain ⟨xs, S, mu, hs, s, hx, h⟩ := h
  unfold fLst at h
  split at h
  · rename_i x
    obtain ⟨v, rfl, q⟩ := pair1 hx
    cases el : seqX S x with
    | none => rw [el] at h; exact h.elim
    | some ds =>
      rw [el] at h
      obtain ⟨p, us, rfl, hq, l, r⟩ := seqX_of s q el
      refine ⟨p, us, rfl, hq, fun l2 hl => post_new s h hl ?_⟩
      have k := (Go.laid s hl (.lst us)).keep (K := X.K)
      unfold DenD
      exact ⟨l2, us, rfl, upd_same, s.fresh hl, l, DenL.keep k _ _ r⟩
  · exact h.elim
def fLstR : List Xv → Sto → R Xv
  | [x], S => (match seqX S x with
    | some ds => .ok (.r S.length) (S ++ [.lst (ds.map .d)])
    | none => .bad)
  | _, _ => .bad
theorem c_lstR : CallR X (.type "list") (rB X.K E fLstR) := CallR.imp call_list_of fun vs H Q h => by
  obtain ⟨xs, S, mu, hs, s, hx, h⟩ := h
  unfold fLstR at h
  split at h
  · rename_i x
    obtain ⟨v, rfl, q⟩ := pair1 hx
    cases el : seqX S x with
    | none => rw [el] at h; exact h.elim
    | some ds =>
      rw [el] at h
      obtain ⟨p, us, rfl, hq, l, r⟩ := seqX_of s q el
      refine ⟨p, us, rfl, hq, fun l2 hl => post_ref (o := .lst (ds.map .d)) (h := .lst us) s hl ⟨by rw [List.length_map]; exact l, us, upd_same, ?_⟩ h⟩
      exact DenL.xs (DenL.keep (Go.newR s hl _ _).keep _ _ r)
  · exact h.elim

def fInt : List Xv → Sto → R Xv
  | [.d (.int i)], S => .ok (.d (.int i)) S
  | [.d (.bool k)], S => .ok (.d (.int (if k then 1 else 0))) S
  | [.d (.str a)], S => (match PySem.intText? a with
    | some n => if a.length ≤ 640 then .ok (.d (.int n)) S else .bad
    | none => .bad)
  | _, _ => .bad
theorem c_int : CallR X (.type "int") (rB X.K E fInt) := CallR.imp (CallR.or call_int1 call_int_str) fun vs H Q h => by
  obtain ⟨xs, S, mu, hs, s, hx, h⟩ := h
  unfold fInt at h
  split at h
  · obtain ⟨v, rfl, q⟩ := pair1 hx
    exact .inl (.inl ⟨_, by rw [den_int q], post_d s h int_den⟩)
  · obtain ⟨v, rfl, q⟩ := pair1 hx
    unfold DenX DenD at q
    exact .inl (.inr ⟨_, by rw [q], post_d s h int_den⟩)
  · obtain ⟨v, rfl, q⟩ := pair1 hx
    split at h
    · rename_i n e
      split at h
      · rename_i hl; exact .inr ⟨_, n, by rw [den_str q], e, hl, post_d s h int_den⟩
      · exact h.elim
    · exact h.elim
  · exact h.elim
def fInt2 (g : Int → Int → Int) : List Xv → Sto → R Xv
  | [.d (.int i), .d (.int j)], S => .ok (.d (.int (g i j))) S
  | _, _ => .bad
def gMax (i j : Int) : Int := if j > i then j else i
def gMin (i j : Int) : Int := if j < i then j else i
theorem c_max2 (hc : X.calm = true) : CallR X (.builtin "max") (rB X.K E (fInt2 gMax)) := CallR.imp (call_max2 hc) fun vs H Q h => by
  obtain ⟨xs, S, mu, hs, s, hx, h⟩ := h
  unfold fInt2 at h
  split at h
  · obtain ⟨v, u, rfl, q, q2⟩ := pair2 hx
    exact ⟨_, _, by rw [den_int q, den_int q2], post_d s h int_den⟩
  · exact h.elim
theorem c_min2 (hc : X.calm = true) : CallR X (.builtin "min") (rB X.K E (fInt2 gMin)) := CallR.imp (call_min2 hc) fun vs H Q h => by
  obtain ⟨xs, S, mu, hs, s, hx, h⟩ := h
  unfold fInt2 at h
  split at h
  · obtain ⟨v, u, rfl, q, q2⟩ := pair2 hx
    exact ⟨_, _, by rw [den_int q, den_int q2], post_d s h int_den⟩
  · exact h.elim
def fAbs : List Xv → Sto → R Xv
  | [.d (.int i)], S => .ok (.d (.int (if i < 0 then -i else i))) S
  | _, _ => .bad
theorem c_abs : CallR X (.builtin "abs") (rB X.K E fAbs) := CallR.imp call_abs fun vs H Q h => by
  obtain ⟨xs, S, mu, hs, s, hx, h⟩ := h
  unfold fAbs at h
  split at h
  · obtain ⟨v, rfl, q⟩ := pair1 hx
    exact ⟨_, by rw [den_int q], post_d s h int_den⟩
  · exact h.elim
/-- sum, max, min of a list of ints -/
def intsD : List D → Option (List Int)
  | [] => some []
  | .int i :: r => (intsD r).map (i :: ·)
  | _ :: _ => none
theorem intsD_vals {lv : Addr → Prop} : ∀ {ds : List D} {vs : List V} {ns : List Int}, DenL K lv H ds vs → intsD ds = some ns → vs = ns.map V.int
  | [], _, ns, h, e => by unfold DenL at h; subst h; cases e; rfl
  | .int i :: r, vs, ns, h, e => by
    unfold DenL at h
    obtain ⟨v, u, rfl, hv, hr⟩ := h
    unfold intsD at e
    cases z : intsD r with
    | none => rw [z] at e; cases e
    | some ms =>
      rw [z] at e; cases e
      unfold DenD at hv
      rw [hv, intsD_vals hr z]; rfl
  | .none :: _, _, _, _, e => by cases e
  | .bool _ :: _, _, _, _, e => by cases e
  | .str _ :: _, _, _, _, e => by cases e
  | .list _ :: _, _, _, _, e => by cases e
  | .tuple _ :: _, _, _, _, e => by cases e
  | .dict _ :: _, _, _, _, e => by cases e
/-- a list (no tuple) of ints -/
def listX (S : Sto) : Xv → Option (List D)
  | .d (.list ds) => some ds
  | .r n => match S[n]? with
    | some (.lst xs) => allD xs
    | some (.rol xs) => allD xs
    | _ => none
  | _ => none
theorem listX_of (s : StoOk K Ts S mu hs H) {x : Xv} {v : V} {ds : List D} (h : DenX K (live S mu hs) mu H x v) (e : listX S x = some ds) :
    ∃ p vs, v = .ref p ∧ SqL K H p vs ∧ ds.length ≤ sizeLine ∧ DenL K (live S mu hs) H ds vs := by
  cases x with
  | d a =>
    cases a with
    | list xs => cases e; obtain ⟨p, vs, rfl, q, n, l, r⟩ := den_list h; exact ⟨p, vs, rfl, .inl (.inl q), l, r⟩
    | _ => cases e
  | r n =>
    obtain ⟨p, rfl, hp⟩ := h
    cases z : S[n]? with
    | none => simp only [listX, z] at e; cases e
    | some o =>
      have k := s.ok n _ p z hp
      cases o with
      | lst ys =>
        simp only [listX, z] at e
        obtain ⟨l, us, e1, q1⟩ := k
        exact ⟨p, us, rfl, .inl (.inl e1), by rw [allD_length e]; exact l, DenXs.allD q1 e⟩
      | rol ys =>
        simp only [listX, z] at e
        obtain ⟨l, us, e1, q1⟩ := k
        exact ⟨p, us, rfl, rol_sq e1, by rw [allD_length e]; exact l, DenXs.allD q1 e⟩
      | dct kvs => simp only [listX, z] at e; cases e
      | dead => simp only [listX, z] at e; cases e
def fSum : List Xv → Sto → R Xv
  | [x], S => (match (listX S x).bind intsD with
    | some ns => .ok (.d (.int ns.sum)) S
    | none => .bad)
  | _, _ => .bad
theorem c_sum (hc : X.calm = true) : CallR X (.builtin "sum") (rB X.K E fSum) := CallR.imp (cr_sum hc) fun vs H Q h => by
  obtain ⟨xs, S, mu, hs, s, hx, h⟩ := h
  unfold fSum at h
  split at h
  · rename_i x
    obtain ⟨v, rfl, q⟩ := pair1 hx
    cases el : listX S x with
    | none => rw [el] at h; exact h.elim
    | some ds =>
      rw [el] at h
      simp only [Option.bind_some] at h
      cases ei : intsD ds with
      | none => rw [ei] at h; exact h.elim
      | some ns =>
        rw [ei] at h
        obtain ⟨p, us, rfl, hq, l, r⟩ := listX_of s q el
        rw [intsD_vals r ei] at hq
        exact ⟨p, ns, rfl, hq, post_d s h int_den⟩
  · exact h.elim
/-- the greatest, the least of a row that has some -/
def topI : List Int → Option Int
  | [] => none
  | x :: r => some (r.foldl max x)
def lowI : List Int → Option Int
  | [] => none
  | x :: r => some (r.foldl min x)
theorem foldl_max_of (m : Int) : ∀ (r : List Int) (x : Int), (m = x ∨ m ∈ r) → (∀ y, (y = x ∨ y ∈ r) → y ≤ m) → r.foldl max x = m
  | [], x, h, hb => by
    rcases h with h | h
    · exact h.symm
    · cases h
  | y :: r, x, h, hb => by
    show r.foldl max (max x y) = m
    have hx := hb x (.inl rfl)
    have hy := hb y (.inr (by simp))
    refine foldl_max_of m r (max x y) ?_ fun z hz => ?_
    · rcases h with h | h
      · exact .inl (by omega)
      · rcases List.mem_cons.mp h with h | h
        · exact .inl (by omega)
        · exact .inr h
    · rcases hz with hz | hz
      · subst hz; omega
      · exact hb z (.inr (List.mem_cons_of_mem _ hz))
theorem foldl_min_of (m : Int) : ∀ (r : List Int) (x : Int), (m = x ∨ m ∈ r) → (∀ y, (y = x ∨ y ∈ r) → m ≤ y) → r.foldl min x = m
  | [], x, h, hb => by
    rcases h with h | h
    · exact h.symm
    · cases h
  | y :: r, x, h, hb => by
    show r.foldl min (min x y) = m
    have hx := hb x (.inl rfl)
    have hy := hb y (.inr (by simp))
    refine foldl_min_of m r (min x y) ?_ fun z hz => ?_
    · rcases h with h | h
      · exact .inl (by omega)
      · rcases List.mem_cons.mp h with h | h
        · exact .inl (by omega)
        · exact .inr h
    · rcases hz with hz | hz
      · subst hz; omega
      · exact hb z (.inr (List.mem_cons_of_mem _ hz))
def fTop (g : List Int → Option Int) : List Xv → Sto → R Xv
  | [x], S => (match ((listX S x).bind intsD).bind g with
    | some n => .ok (.d (.int n)) S
    | none => .bad)
  | _, _ => .bad
theorem c_maxL (hc : X.calm = true) : CallR X (.builtin "max") (rB X.K E (fTop topI)) := CallR.imp (cr_max hc) fun vs H Q h => by
  obtain ⟨xs, S, mu, hs, s, hx, h⟩ := h
  unfold fTop at h
  split at h
  · rename_i x
    obtain ⟨v, rfl, q⟩ := pair1 hx
    cases el : listX S x with
    | none => rw [el] at h; exact h.elim
    | some ds =>
      rw [el] at h
      simp only [Option.bind_some] at h
      cases ei : intsD ds with
      | none => rw [ei] at h; exact h.elim
      | some ns =>
        rw [ei] at h
        obtain ⟨p, us, rfl, hq, l, r⟩ := listX_of s q el
        rw [intsD_vals r ei] at hq
        cases ns with
        | nil => exact h.elim
        | cons n ns =>
          refine ⟨p, _, rfl, hq, by simp, fun m hm hb => ?_⟩
          have := foldl_max_of m ns n (List.mem_cons.mp hm) fun y hy => hb y (List.mem_cons.mpr hy)
          simp only [Option.bind_some, topI, this] at h
          exact post_d s h int_den
  · exact h.elim
theorem c_minL (hc : X.calm = true) : CallR X (.builtin "min") (rB X.K E (fTop lowI)) := CallR.imp (cr_min hc) fun vs H Q h => by
  obtain ⟨xs, S, mu, hs, s, hx, h⟩ := h
  unfold fTop at h
  split at h
  · rename_i x
    obtain ⟨v, rfl, q⟩ := pair1 hx
    cases el : listX S x with
    | none => rw [el] at h; exact h.elim
    | some ds =>
      rw [el] at h
      simp only [Option.bind_some] at h
      cases ei : intsD ds with
      | none => rw [ei] at h; exact h.elim
      | some ns =>
        rw [ei] at h
        obtain ⟨p, us, rfl, hq, l, r⟩ := listX_of s q el
        rw [intsD_vals r ei] at hq
        cases ns with
        | nil => exact h.elim
        | cons n ns =>
          refine ⟨p, _, rfl, hq, by simp, fun m hm hb => ?_⟩
          have := foldl_min_of m ns n (List.mem_cons.mp hm) fun y hy => hb y (List.mem_cons.mpr hy)
          simp only [Option.bind_some, lowI, this] at h
          exact post_d s h int_den
  · exact h.elim

def pIsi (t : Ty) (pa : Me) : Me := fun ρ S => (pa ρ S).bind fun x S1 => match tyX S1 x with
  | some u => .ok (.d (.bool (isiB u t))) S1
  | none => .bad
end
end PB

namespace PB
open PySem PySem.Spec PyProof.Rows L2
variable {Ts : List Addr}

theorem str_denX {K : PySem.W.Frag} {lv : Addr → Prop} {mu : List Addr} {H : Hp} {x : Str} : DenX K lv mu H (.d (.str x)) (.str x) := by unfold DenX DenD; rfl
theorem int_denX {K : PySem.W.Frag} {lv : Addr → Prop} {mu : List Addr} {H : Hp} {i : Int} : DenX K lv mu H (.d (.int i)) (.int i) := by unfold DenX DenD; rfl
/-- what lies between two states, but for the hidden lists -/
structure GoW (S : Sto) (mu : List Addr) (hs : List Addr) (H : Hp) (S' : Sto) (mu' : List Addr) (H' : Hp) : Prop where
  pre : ∀ (r : Nat) (a : Addr), mu[r]? = some a → mu'[r]? = some a
  tup : ∀ a vs, H a = some (.tup vs) → H' a = some (.tup vs)
  frz : ∀ a o u, H a = some (.frz o u) → H' a = some (.frz o u)
  tbl : ∀ a ps, H a = some (.tbl ps) → ∃ more, H' a = some (.tbl (ps ++ more))
  stay : ∀ a o, H a = some o → (∀ ps, o ≠ .tbl ps) → ¬ live S mu hs a → H' a = some o
  nlv : ∀ a, H a ≠ none → ¬ live S mu hs a → ¬ live S' mu' hs a
  hadn : ∀ a, H a ≠ none → H' a ≠ none
section
variable {K : PySem.W.Frag} {S S1 S' : Sto} {mu mu1 mu' hs : List Addr} {H H1 H' : Hp}
theorem Go.w (g : Go S mu hs H S' mu' H') : GoW S mu hs H S' mu' H' := ⟨g.pre, g.tup, g.frz, g.tbl, g.stay, g.nlv, g.hadn⟩
theorem GoW.go (a : GoW S mu hs H S1 mu1 H1) (b : Go S1 mu1 hs H1 S' mu' H') : GoW S mu hs H S' mu' H' where
  pre := fun r x h => b.pre r x (a.pre r x h)
  tup := fun x vs h => b.tup x vs (a.tup x vs h)
  frz := fun x o u h => b.frz x o u (a.frz x o u h)
  tbl := fun x ps h => by
    obtain ⟨m1, e1⟩ := a.tbl x ps h
    obtain ⟨m2, e2⟩ := b.tbl x _ e1
    exact ⟨m1 ++ m2, by rw [e2, Array.append_assoc]⟩
  stay := fun x o h nt n => b.stay x o (a.stay x o h nt n) nt (a.nlv x (by rw [h]; exact nofun) n)
  nlv := fun x h n => b.nlv x (a.hadn x h) (a.nlv x h n)
  hadn := fun x h => b.hadn x (a.hadn x h)
theorem GoW.lst (g : GoW S mu hs H S' mu' H') (a : Addr) (vs : List V) (h : H a = some (.lst vs)) (n : ¬ live S mu hs a) : H' a = some (.lst vs) ∧ ¬ live S' mu' hs a :=
  ⟨g.stay a _ h (fun _ => nofun) n, g.nlv a (by rw [h]; exact nofun) n⟩
theorem GoW.sqT (g : GoW S mu hs H S' mu' H') {a : Addr} {vs : List V} (h : SqT K H a vs) : SqT K H' a vs := by
  rcases h with h | h
  · rcases h with h | ⟨o, h⟩
    · exact .inl (.inl (g.tup _ _ h))
    · exact .inl (.inr ⟨o, g.frz _ _ _ h⟩)
  · exact .inr h
theorem GoW.rdL (g : GoW S mu hs H S' mu' H') {a : Addr} {vs : List V} (h : Rd H a (.lst vs)) (n : ¬ live S mu hs a) : Rd H' a (.lst vs) ∧ ¬ live S' mu' hs a := by
  rcases h with h | ⟨o, h⟩
  · exact ⟨.inl (g.lst _ _ h n).1, (g.lst _ _ h n).2⟩
  · exact ⟨.inr ⟨o, g.frz _ _ _ h⟩, g.nlv _ (by rw [h]; exact nofun) n⟩
theorem GoW.keep (g : GoW S mu hs H S' mu' H') : Keep K (live S mu hs) (live S' mu' hs) H H' := ⟨fun _ _ h => g.sqT h, fun _ _ h n => g.lst _ _ h n, fun _ _ h n => g.rdL h n⟩
/-- what is new may be hidden -/
theorem GoW.keepX (g : GoW S mu hs H S' mu' H') {ex : List Addr} (hx : ∀ d ∈ ex, H d = none) : Keep K (live S mu hs) (live S' mu' (ex ++ hs)) H H' := by
  have nl : ∀ a, H a ≠ none → ¬ live S mu hs a → ¬ live S' mu' (ex ++ hs) a := fun a h n => by
    rintro (q | q)
    · rcases List.mem_append.mp q with q | q
      · exact h (hx a q)
      · exact n (.inl q)
    · exact g.nlv a h n (.inr q)
  refine ⟨fun a vs h => g.sqT h, fun a vs h n => ⟨(g.lst a vs h n).1, nl a (by rw [h]; exact nofun) n⟩, fun a vs h n => ⟨(g.rdL h n).1, nl a ?_ n⟩⟩
  rcases h with h | ⟨o, h⟩ <;> rw [h] <;> exact nofun
theorem Go.keepX (g : Go S mu hs H S' mu' H') {ex : List Addr} (hx : ∀ d ∈ ex, H d = none) : Keep K (live S mu hs) (live S' mu' (ex ++ hs)) H H' := g.w.keepX hx
/-- the hidden list is written -/
theorem GoW.upd {D : Addr} {vs : List V} (g : GoW S mu hs H S' mu' H') (hD : D ∈ hs) (hl : H' D = some (.lst vs)) (o : HO) : GoW S mu hs H S' mu' (upd H' D o) where
  pre := g.pre
  tup := fun a xs h => by
    have e := g.tup a xs h
    rw [upd_ne (fun z => by rw [z, hl] at e; cases e)]; exact e
  frz := fun a ob u h => by
    have e := g.frz a ob u h
    rw [upd_ne (fun z => by rw [z, hl] at e; cases e)]; exact e
  tbl := fun a ps h => by
    obtain ⟨m, e⟩ := g.tbl a ps h
    exact ⟨m, by rw [upd_ne (fun z => by rw [z, hl] at e; cases e)]; exact e⟩
  stay := fun a ob h nt n => by
    rw [upd_ne (fun z => n (.inl (by rw [z]; exact hD)))]; exact g.stay a ob h nt n
  nlv := g.nlv
  hadn := fun a h => by
    by_cases z : a = D
    · rw [z, upd_same]; exact nofun
    · rw [upd_ne z]; exact g.hadn a h
end
/-- from a state on the walk J gives xs -/
def ItOk (K : PySem.W.Frag) (hs : List Addr) (xs : List Xv) (S0 : Sto) (mu0 : List Addr) (H0 : Hp) (J : It) : Prop :=
  xs.length ≤ sizeLine ∧ ∀ (Ts ex : List Addr) S mu H, (∀ d ∈ ex, H0 d = none) → GoW S0 mu0 hs H0 S mu H → StoOk K Ts S mu (ex ++ hs) H →
    (∀ i, i < xs.length → J.go i H) ∧ J.stop xs.length H ∧
    ∀ i v H', i < xs.length → J.yld i H v H' → Go S mu (ex ++ hs) H S mu H' ∧ StoOk K Ts S mu (ex ++ hs) H' ∧ ∃ x, xs[i]? = some x ∧ DenX K (live S mu (ex ++ hs)) mu H' x v
theorem Keep.denX {K : PySem.W.Frag} {lv lv' : Addr → Prop} {mu mu' : List Addr} {H H' : Hp} (k : Keep K lv lv' H H') (hm : ∀ (r : Nat) (a : Addr), mu[r]? = some a → mu'[r]? = some a) {x : Xv} {v : V} (h : DenX K lv mu H x v) : DenX K lv' mu' H' x v := by
  cases x with
  | d a => exact DenD.keep k a v h
  | r n => obtain ⟨a, e, q⟩ := h; exact ⟨a, e, hm _ _ q⟩
theorem Keep.env {K : PySem.W.Frag} {lv lv' : Addr → Prop} {mu mu' : List Addr} {H H' : Hp} (k : Keep K lv lv' H H') (hm : ∀ (r : Nat) (a : Addr), mu[r]? = some a → mu'[r]? = some a) {ρ : Env0'} {σ : L2.St} (h : EnvOk K lv mu H ρ σ) : EnvOk K lv' mu' H' ρ σ :=
  ⟨h.1, fun i x e => let ⟨v, e1, q⟩ := h.2 i x e; ⟨v, e1, k.denX hm q⟩⟩
def iD (K : PySem.W.Frag) (E : XW) (p : Mes) : TI := fun σ H R => ∃ ρ S mu hs, EnvOk K (live S mu hs) mu H ρ σ ∧ StoOk K E.ts S mu hs H ∧
  Post K E S mu hs H (fun xs S' mu' H' => ∀ J, ItOk K hs xs S' mu' H' J → R J H') (p ρ S)
theorem PI.imp {X : Cx} {tg e : Expr} {w w' : TI} (h : PI X tg e w) (hi : ∀ σ H R, w' σ H R → w σ H R) : PI X tg e w' := ⟨fun pins s σ H R I q => h.run pins s σ H R I (hi σ H R q)⟩
theorem PI.or {X : Cx} {tg e : Expr} {w w' : TI} (h : PI X tg e w) (h' : PI X tg e w') : PI X tg e (fun σ H R => w σ H R ∨ w' σ H R) := ⟨fun pins s σ H R I q => by
  rcases q with q | q
  · exact h.run pins s σ H R I q
  · exact h'.run pins s σ H R I q⟩
def signs (z : Str) : List Xv := z.cps.toList.map fun c => .d (.str ⟨#[c]⟩)
def seqIt (x : Xv) (S : Sto) : R (List Xv) := match x with
  | .d (.tuple ds) => .ok (ds.map .d) S
  | .d (.list ds) => .ok (ds.map .d) S
  | .d (.str z) => if z.length ≤ sizeLine then .ok (signs z) S else .bad
  | _ => .bad
def pSeqI (p : Me) : Mes := fun ρ S => (p ρ S).bind fun x S1 => seqIt x S1
section
variable {X : Cx} {E : XW} {tg : Expr}
theorem it_list {K : PySem.W.Frag} {hs : List Addr} {S : Sto} {mu : List Addr} {H : Hp} {a : Addr} {ds : List D} {vs : List V} (q : H a = some (.lst vs)) (n : ¬ live S mu hs a) (l : ds.length ≤ sizeLine) (r : DenL K (live S mu hs) H ds vs) : ItOk K hs (ds.map .d) S mu H (Itl K a) := by
  refine ⟨by simpa using l, fun Ts ex S1 mu1 H1 hx g s => ?_⟩
  have q1 : SqL K H1 a vs := .inl (.inl (g.lst a vs q n).1)
  have r1 := DenL.keep (g.keepX hx) _ _ r
  have el := r.length
  rw [List.length_map]
  refine ⟨fun i hi => ⟨vs, vs[i]'(by omega), q1, by simp⟩, ⟨vs, q1, by omega⟩, fun i v H' hi y => ?_⟩
  obtain ⟨rfl, y⟩ := y
  have y := y vs q1
  obtain ⟨u, e1, du⟩ := r1.get (i := i) (List.getElem?_eq_getElem hi)
  rw [y] at e1; cases e1
  exact ⟨Go.refl, s, .d ds[i], by simp [hi], du⟩
theorem it_tup {K : PySem.W.Frag} {hs : List Addr} {S : Sto} {mu : List Addr} {H : Hp} {a : Addr} {ds : List D} {vs : List V} (q : SqT K H a vs) (l : ds.length ≤ sizeLine) (r : DenL K (live S mu hs) H ds vs) : ItOk K hs (ds.map .d) S mu H (Itt K a) := by
  refine ⟨by simpa using l, fun Ts ex S1 mu1 H1 hx g s => ?_⟩
  have q1 : SqT K H1 a vs := g.sqT q
  have r1 := DenL.keep (g.keepX hx) _ _ r
  have el := r.length
  rw [List.length_map]
  refine ⟨fun i hi => ⟨vs, vs[i]'(by omega), q1, by simp⟩, ⟨vs, q1, by omega⟩, fun i v H' hi y => ?_⟩
  obtain ⟨rfl, y⟩ := y
  have y := y vs q1
  obtain ⟨u, e1, du⟩ := r1.get (i := i) (List.getElem?_eq_getElem hi)
  rw [y] at e1; cases e1
  exact ⟨Go.refl, s, .d ds[i], by simp [hi], du⟩
theorem it_str {K : PySem.W.Frag} {hs : List Addr} {S : Sto} {mu : List Addr} {H : Hp} {z : Str} (l : z.length ≤ sizeLine) : ItOk K hs (signs z) S mu H (Its z) := by
  have el : (signs z).length = z.cps.size := by simp [signs]
  refine ⟨by rw [el]; exact l, fun Ts ex S1 mu1 H1 hx g s => ?_⟩
  rw [el]
  refine ⟨fun i hi => hi, Nat.le_refl _, fun i v H' hi y => ?_⟩
  obtain ⟨rfl, c, e, rfl⟩ := y
  refine ⟨Go.refl, s, .d (.str ⟨#[c]⟩), ?_, str_denX⟩
  unfold signs
  rw [List.getElem?_map, Array.getElem?_toList, e]
  rfl
theorem i_seq {e : Expr} {p : Me} (he : PE X e (tD X.K E p)) : PI X tg e (iD X.K E (pSeqI p)) := by
  refine PI.imp (PI.or (pi_list he) (PI.or (pi_tup he) (pi_str he))) fun σ H Rt h => ?_
  obtain ⟨ρ, S, mu, hs, en, s, h⟩ := h
  unfold pSeqI at h
  cases hp : p ρ S with
  | bad => rw [hp] at h; exact h.elim
  | exc c as S1 =>
    rw [hp] at h
    exact .inl ⟨ρ, S, mu, hs, en, s, by rw [hp]; exact h⟩
  | ok x S1 =>
    rw [hp] at h
    cases x with
    | r n => exact h.elim
    | d d =>
      cases d with
      | list ds =>
        refine .inl ⟨ρ, S, mu, hs, en, s, ?_⟩
        rw [hp]
        intro mu1 H1 g1 s1 v hv
        obtain ⟨a, vs, rfl, q, n, l, r⟩ := den_list hv
        exact ⟨a, rfl, ⟨vs, .inl (.inl q)⟩, h mu1 H1 g1 s1 _ (it_list q n l r)⟩
      | tuple ds =>
        refine .inr (.inl ⟨ρ, S, mu, hs, en, s, ?_⟩)
        rw [hp]
        intro mu1 H1 g1 s1 v hv
        obtain ⟨a, vs, rfl, q, l, r⟩ := den_tuple hv
        exact ⟨a, rfl, ⟨vs, q⟩, h mu1 H1 g1 s1 _ (it_tup q l r)⟩
      | str z =>
        simp only [R.bind, seqIt] at h
        split at h
        · rename_i hl
          refine .inr (.inr ⟨ρ, S, mu, hs, en, s, ?_⟩)
          rw [hp]
          intro mu1 H1 g1 s1 v hv
          exact ⟨z, den_str hv, h mu1 H1 g1 s1 _ (it_str hl)⟩
        · exact h.elim
      | _ => exact h.elim
def rangeL (lo : Int) (n : Nat) : List Xv := (List.range n).map fun (i : Nat) => .d (.int (lo + i))
theorem it_range {K : PySem.W.Frag} {hs : List Addr} {S : Sto} {mu : List Addr} {H : Hp} {lo : Int} {n : Nat} (l : n ≤ sizeLine) : ItOk K hs (rangeL lo n) S mu H (Itr lo n) := by
  have el : (rangeL lo n).length = n := by simp [rangeL]
  refine ⟨by rw [el]; exact l, fun Ts ex S1 mu1 H1 hx g s => ?_⟩
  rw [el]
  refine ⟨fun i hi => hi, Nat.le_refl _, fun i v H' hi y => ?_⟩
  obtain ⟨rfl, rfl⟩ := y
  exact ⟨Go.refl, s, .d (.int (lo + i)), by simp [rangeL, hi], int_denX⟩
def inR (i : Int) : Bool := iGe i (2 ^ 62) && iLe i (2 ^ 62 - 1)
theorem inR_iff {i : Int} : inR i = true ↔ (-(2 ^ 62) ≤ i ∧ i < 2 ^ 62) := by
  unfold inR
  rw [Bool.and_eq_true, iLe_iff, iGe_iff]
  omega
def rng1 : List Xv → Sto → R (List Xv)
  | [.d (.int j)], S => if inR j && decide (j.toNat ≤ sizeLine) then .ok (rangeL 0 j.toNat) S else .bad
  | _, _ => .bad
def rng2 : List Xv → Sto → R (List Xv)
  | [.d (.int i), .d (.int j)], S => if inR i && inR j && decide ((j - i).toNat ≤ sizeLine) then .ok (rangeL i (j - i).toNat) S else .bad
  | _, _ => .bad
def pItC (f : List Xv → Sto → R (List Xv)) (q : Mes) : Mes := fun ρ S => (q ρ S).bind fun xs S1 => f xs S1
theorem i_rng1 {a : Expr} {q : Mes} {p pos : Pos} (hg : Gl X "range") (hm : X.mg "range" = none) (ha : PA X [a] (tDs X.K E q)) (hs : starEach [a] X.env = [(false, eval a X.env)]) : PI X tg (.Call (.Name "range" p) [a] [] pos) (iD X.K E (pItC rng1 q)) :=
  PI.imp (pi_range1 hg hm ha hs) fun σ H Rt h => by
    obtain ⟨ρ, S, mu, hs, en, s, h⟩ := h
    refine ⟨ρ, S, mu, hs, en, s, Post.mono (Post.bind h) fun xs S1 mu1 H1 g1 s1 z vs hvs => ?_⟩
    obtain ⟨_, _, z⟩ := z
    unfold rng1 at z
    split at z
    · split at z
      · rename_i j hc
        rw [Bool.and_eq_true] at hc
        obtain ⟨c1, c2⟩ := inR_iff.mp hc.1
        obtain ⟨v, rfl, hv⟩ := pair1 hvs
        exact ⟨j, by rw [den_int hv], c1, c2, z.here s1 _ (it_range (of_decide_eq_true hc.2))⟩
      · exact z.elim
    · exact z.elim
theorem i_rng2 {a b : Expr} {q : Mes} {p pos : Pos} (hg : Gl X "range") (hm : X.mg "range" = none) (ha : PA X [a, b] (tDs X.K E q)) (hs : starEach [a, b] X.env = [(false, eval a X.env), (false, eval b X.env)]) (hs2 : starEach [b] X.env = [(false, eval b X.env)]) : PI X tg (.Call (.Name "range" p) [a, b] [] pos) (iD X.K E (pItC rng2 q)) :=
  PI.imp (pi_range2 hg hm ha hs hs2) fun σ H Rt h => by
    obtain ⟨ρ, S, mu, hs, en, s, h⟩ := h
    refine ⟨ρ, S, mu, hs, en, s, Post.mono (Post.bind h) fun xs S1 mu1 H1 g1 s1 z vs hvs => ?_⟩
    obtain ⟨_, _, z⟩ := z
    unfold rng2 at z
    split at z
    · split at z
      · rename_i i j hc
        rw [Bool.and_eq_true, Bool.and_eq_true] at hc
        obtain ⟨c1, c2⟩ := inR_iff.mp hc.1.1
        obtain ⟨c3, c4⟩ := inR_iff.mp hc.1.2
        obtain ⟨v, u, rfl, hv, hu⟩ := pair2 hvs
        exact ⟨i, j, by rw [den_int hv, den_int hu], ⟨c1, c2, c3, c4⟩, z.here s1 _ (it_range (of_decide_eq_true hc.2))⟩
      · exact z.elim
    · exact z.elim
end

inductive Tg where
  | nm (i : Nat)
  | tp (is : List Nat)
def setAll : List Nat → List Xv → Env0' → Option Env0'
  | [], [], ρ => some ρ
  | i :: is, x :: xs, ρ => setAll is xs (ρ.set i (some x))
  | _, _, _ => none
def asgT : Tg → Xv → Env0' → Option Env0'
  | .nm i, x, ρ => some (ρ.set i (some x))
  | .tp is, .d (.tuple ds), ρ => if ds.length = is.length then setAll is (ds.map .d) ρ else none
  | _, _, _ => none
/-- a target's reading does what asgT says -/
def Tg.ix : Tg → List Nat
  | .nm i => [i]
  | .tp is => is
/-- but for the places is -/
def Off (is : List Nat) (σ σ' : L2.St) : Prop := σ'.length = σ.length ∧ ∀ j, j ∉ is → σ'[j]? = σ[j]?
theorem Off.set {i : Nat} {v : Option V} {σ : L2.St} : Off [i] σ (σ.set i v) := ⟨by simp, fun j h => by rw [List.getElem?_set_ne (fun e => h (by simp [e]))]⟩
theorem Off.trans {is js : List Nat} {σ σ1 σ2 : L2.St} (a : Off is σ σ1) (b : Off js σ1 σ2) : Off (is ++ js) σ σ2 := ⟨b.1.trans a.1, fun j h => by
  rw [List.mem_append, not_or] at h
  exact (b.2 j h.2).trans (a.2 j h.1)⟩
def GOk (K : PySem.W.Frag) (g : TG) (t : Tg) : Prop := ∀ (x : Xv) (ρ ρ' : Env0') (S : Sto) (mu hs : List Addr) (H : Hp) (σ : L2.St) (v : V) (Q : L2.St → Hp → Prop), EnvOk K (live S mu hs) mu H ρ σ → DenX K (live S mu hs) mu H x v → asgT t x ρ = some ρ' →
  (∀ σ', EnvOk K (live S mu hs) mu H ρ' σ' → Off t.ix σ σ' → Q σ' H) → g v σ H Q
theorem gok_nm {K : PySem.W.Frag} {i : Nat} : GOk K (gName i) (.nm i) := fun x ρ ρ' S mu hs H σ v Q en hv e h => by
  cases e
  exact h _ (en.set hv) Off.set
/-- several names, one after another -/
def gNames : List Nat → TGs
  | [] => gNil
  | i :: is => gCons (gName i) (gNames is)
theorem gNames_ok {K : PySem.W.Frag} {S : Sto} {mu hs : List Addr} {H : Hp} {Q : L2.St → Hp → Prop} : ∀ {is : List Nat} {xs : List Xv} {vs : List V} {ρ ρ' : Env0'} {σ : L2.St}, EnvOk K (live S mu hs) mu H ρ σ → DenXs K (live S mu hs) mu H xs vs → setAll is xs ρ = some ρ' →
    (∀ σ', EnvOk K (live S mu hs) mu H ρ' σ' → Off is σ σ' → Q σ' H) → gNames is vs σ H Q
  | [], [], _, ρ, ρ', σ, en, .nil, e, h => by cases e; exact ⟨rfl, h _ en ⟨rfl, fun _ _ => rfl⟩⟩
  | i :: is, x :: xs, _, ρ, ρ', σ, en, .cons q t, e, h => ⟨_, _, rfl, gNames_ok (en.set q) t e fun σ' e' o => h σ' e' (Off.set.trans o)⟩
  | [], _ :: _, _, _, _, _, _, _, e, _ => by cases e
  | _ :: _, [], _, _, _, _, _, _, e, _ => by cases e
theorem gok_tp {K : PySem.W.Frag} {is : List Nat} : GOk K (gTup K is.length (gNames is)) (.tp is) := fun x ρ ρ' S mu hs H σ v Q en hv e h => by
  cases x with
  | r n => cases e
  | d d =>
    cases d with
    | tuple ds =>
      simp only [asgT] at e
      split at e
      · rename_i hl
        obtain ⟨a, vs, rfl, q, l, r⟩ := den_tuple hv
        exact ⟨a, vs, rfl, q, by rw [← r.length]; exact hl, gNames_ok en (DenL.xs r) e h⟩
      · cases e
    | _ => cases e

def wipeR (ρ : Env0') : List Nat → Env0'
  | [] => ρ
  | v :: vs => (wipeR ρ vs).set v none
/-- the turns of a comprehension -/
def lcLoop (t : Tg) (pt : Env0' → Sto → R Bool) (pe : Me) (ρ : Env0') : List Xv → List D → Sto → R (List D)
  | [], acc, S => .ok acc S
  | x :: xs, acc, S => match asgT t x ρ with
    | none => .bad
    | some ρ1 => (pt ρ1 S).bind fun b S1 => if b then (pe ρ1 S1).bind (fun y S2 => match y with
        | .d d => lcLoop t pt pe ρ xs (acc ++ [d]) S2
        | .r _ => .bad) else lcLoop t pt pe ρ xs acc S1
def nox {α : Type} : R α → R α
  | .exc _ _ _ => .bad
  | r => r
def pLc (vs : List Nat) (t : Tg) (it : Mes) (pt : Env0' → Sto → R Bool) (pe : Me) : Me := fun ρ S => (it ρ S).bind fun xs S1 => (nox (lcLoop t pt pe (wipeR ρ vs) xs [] S1)).bind fun ds S2 => .ok (.d (.list ds)) S2
theorem EnvOk.wipe {K : PySem.W.Frag} {lv : Addr → Prop} {mu : List Addr} {H : Hp} {ρ : Env0'} {σ : L2.St} (h : EnvOk K lv mu H ρ σ) : ∀ vs, EnvOk K lv mu H (wipeR ρ vs) (wipe σ vs)
  | [] => h
  | v :: vs => by
    have ih := EnvOk.wipe h vs
    refine ⟨by show ((L2.wipe σ vs).set v none).length = ((wipeR ρ vs).set v none).length; simpa using ih.1, fun i x e => ?_⟩
    unfold wipeR at e
    unfold L2.wipe
    by_cases hi : i = v
    · subst hi
      by_cases hl : i < (wipeR ρ vs).length
      · rw [List.getElem?_set_self hl] at e; cases e
      · rw [List.getElem?_eq_none (by simpa using hl)] at e; cases e
    · rw [List.getElem?_set_ne (Ne.symm hi)] at e ⊢
      exact ih.2 i x e
theorem wipe_get {σ : L2.St} : ∀ {vs : List Nat} {j : Nat}, (wipe σ vs)[j]? = if j ∈ vs then (if j < σ.length then some none else none) else σ[j]?
  | [], j => by simp [wipe]
  | v :: vs, j => by
    unfold wipe
    by_cases h : j = v
    · subst h
      simp only [List.mem_cons, true_or, if_true]
      by_cases hl : j < σ.length
      · rw [List.getElem?_set_self (by rw [wipe_length]; exact hl), if_pos hl]
      · rw [List.getElem?_eq_none (by rw [List.length_set, wipe_length]; omega), if_neg hl]
    · rw [List.getElem?_set_ne (Ne.symm h), wipe_get]
      simp [h]
theorem wipe_off {is vs : List Nat} {σ σ' : L2.St} (h : Off is (wipe σ vs) σ') (hs : ∀ i ∈ is, i ∈ vs) : wipe σ' vs = wipe σ vs := by
  apply List.ext_getElem?
  intro j
  rw [wipe_get, wipe_get]
  have hl : σ'.length = σ.length := by rw [h.1, wipe_length]
  by_cases hj : j ∈ vs
  · rw [if_pos hj, if_pos hj, hl]
  · rw [if_neg hj, if_neg hj, h.2 j (fun z => hj (hs j z)), wipe_get, if_neg hj]
section
variable {K : PySem.W.Frag} {S S' S0 : Sto} {mu mu' mu0 hs : List Addr} {H H' H0 : Hp} {D : Addr}
theorem StoOk.hide (s : StoOk K Ts S mu hs H) (hD : H D = none) (o : HO) : StoOk K Ts S mu (D :: hs) (upd H D o) := by
  have g := Go.laid s hD o
  have k : Keep K (live S mu hs) (live S mu (D :: hs)) H (upd H D o) := by
    have := g.keepX (K := K) (ex := [D]) (fun d hd => by rw [List.mem_singleton.mp hd]; exact hD)
    exact this
  refine ⟨s.len, s.inj, fun r m a e q => MOk.go k (fun _ _ h => h) (fun _ o' h => ?_) (s.ok r m a e q), fun a ha => ?_, fun a ha r m e hm q => ?_, fun P hP => let ⟨ps, e, t⟩ := s.tab P hP; ⟨ps, (upd_ne (ne_of_none e hD)).trans e, t⟩⟩
  · rw [upd_ne (ne_of_none h hD)]; exact h
  · rcases List.mem_cons.mp ha with rfl | ha
    · rw [upd_same]; exact nofun
    · exact g.hadn a (s.hid a ha)
  · rcases List.mem_cons.mp ha with rfl | ha
    · exact s.had (.inr ⟨r, m, e, hm, q⟩) hD
    · exact s.hidn a ha r m e hm q
theorem StoOk.show (s : StoOk K Ts S mu (D :: hs) H) : StoOk K Ts S mu hs H := by
  have k : Keep K (live S mu (D :: hs)) (live S mu hs) H H := by
    have nl : ∀ a, ¬ live S mu (D :: hs) a → ¬ live S mu hs a := fun a n q => n (q.elim (fun z => .inl (List.mem_cons_of_mem _ z)) .inr)
    exact ⟨fun _ _ h => h, fun _ _ h n => ⟨h, nl _ n⟩, fun _ _ h n => ⟨h, nl _ n⟩⟩
  exact ⟨s.len, s.inj, fun r m a e q => MOk.go k (fun _ _ h => h) (fun _ _ h => h) (s.ok r m a e q), fun a ha => s.hid a (List.mem_cons_of_mem _ ha), fun a ha => s.hidn a (List.mem_cons_of_mem _ ha), s.tab⟩
theorem keep_show : Keep K (live S mu (D :: hs)) (live S mu hs) H H := by
  have nl : ∀ a, ¬ live S mu (D :: hs) a → ¬ live S mu hs a := fun a n q => n (q.elim (fun z => .inl (List.mem_cons_of_mem _ z)) .inr)
  exact ⟨fun _ _ h => h, fun _ _ h n => ⟨h, nl _ n⟩, fun _ _ h n => ⟨h, nl _ n⟩⟩
theorem Go.show (g : Go S mu (D :: hs) H S' mu' H') (s' : StoOk K Ts S' mu' (D :: hs) H') (nD : D ∉ hs) : Go S mu hs H S' mu' H' where
  pre := g.pre
  tup := g.tup
  frz := g.frz
  tbl := g.tbl
  stay := fun a o h nt n => by
    by_cases e : a = D
    · subst e; exact g.hid a (List.mem_cons_self ..) o h nt
    · exact g.stay a o h nt fun z => n (z.elim (fun q => .inl ((List.mem_cons.mp q).resolve_left e)) .inr)
  nlv := fun a h n => by
    by_cases e : a = D
    · subst e
      rintro (q | ⟨r, m, e, hm, q⟩)
      · exact nD q
      · exact s'.hidn a (List.mem_cons_self ..) r m e hm q
    · intro z
      exact g.nlv a h (fun z => n (z.elim (fun q => .inl ((List.mem_cons.mp q).resolve_left e)) .inr)) (z.elim (fun q => .inl (List.mem_cons_of_mem _ q)) .inr)
  hid := fun a ha => g.hid a (List.mem_cons_of_mem _ ha)
  hadn := g.hadn
theorem Go.updFresh (g : Go S mu hs H S' mu' H') (hD : H D = none) (hh : ∀ a ∈ hs, H a ≠ none) (o : HO) : Go S mu hs H S' mu' (upd H' D o) where
  pre := g.pre
  tup := fun a vs h => by rw [upd_ne (ne_of_none h hD)]; exact g.tup a vs h
  frz := fun a o u h => by rw [upd_ne (ne_of_none h hD)]; exact g.frz a o u h
  tbl := fun a ps h => by rw [upd_ne (ne_of_none h hD)]; exact g.tbl a ps h
  stay := fun a o h nt n => by rw [upd_ne (ne_of_none h hD)]; exact g.stay a o h nt n
  nlv := g.nlv
  hid := fun a ha o h nt => by rw [upd_ne (ne_of_none h hD)]; exact g.hid a ha o h nt
  hadn := fun a h => by
    by_cases e : a = D
    · rw [e, upd_same]; exact nofun
    · rw [upd_ne e]; exact g.hadn a h
theorem keep_updHid {vs : List V} (o : HO) (hD : H D = some (.lst vs)) : Keep K (live S mu (D :: hs)) (live S mu (D :: hs)) H (upd H D o) where
  tup := fun a ws h => by
    rcases h with h | h
    · rcases h with h | ⟨u, h⟩
      · exact .inl (.inl (by rw [upd_ne (fun e => by rw [e, hD] at h; cases h)]; exact h))
      · exact .inl (.inr ⟨u, by rw [upd_ne (fun e => by rw [e, hD] at h; cases h)]; exact h⟩)
    · exact .inr h
  lst := fun a ws h n => ⟨by rw [upd_ne (fun e => n (.inl (by rw [e]; exact List.mem_cons_self ..)))]; exact h, n⟩
  rd := fun a ws h n => by
    refine ⟨?_, n⟩
    have ne : a ≠ D := fun e => n (.inl (by rw [e]; exact List.mem_cons_self ..))
    rcases h with h | ⟨u, h⟩
    · exact .inl (by rw [upd_ne ne]; exact h)
    · exact .inr ⟨u, by rw [upd_ne ne]; exact h⟩
theorem StoOk.updHid {vs : List V} (s : StoOk K Ts S mu (D :: hs) H) (o : HO) (hD : H D = some (.lst vs)) : StoOk K Ts S mu (D :: hs) (upd H D o) := by
  have k : Keep K (live S mu (D :: hs)) (live S mu (D :: hs)) H (upd H D o) := keep_updHid o hD
  refine ⟨s.len, s.inj, fun r m a e q => MOk.go k (fun _ _ h => h) (fun hm o' h => ?_) (s.ok r m a e q), fun a ha => ?_, s.hidn, fun P hP => let ⟨ps, e, t⟩ := s.tab P hP; ⟨ps, (upd_ne (fun z => by rw [z, hD] at e; cases e)).trans e, t⟩⟩
  · rw [upd_ne (fun z => s.hidn D (List.mem_cons_self ..) r m e hm (by rw [← z]; exact q))]; exact h
  · by_cases e : a = D
    · rw [e, upd_same]; exact nofun
    · rw [upd_ne e]; exact s.hid a ha
end
theorem drop_get {α : Type} {xs : List α} {i : Nat} {x : α} (h : xs[i]? = some x) : xs.drop i = x :: xs.drop (i + 1) := by
  obtain ⟨hl, e⟩ := List.getElem?_eq_some_iff.mp h
  rw [List.drop_eq_getElem_cons hl, e]
section
variable {X : Cx} {E : XW}
theorem lc_red {vs : List Nat} {t : Tg} {it : Mes} {pt : Env0' → Sto → R Bool} {pe : Me} {g : TG} {σ : L2.St} {H : Hp} {Q : VK} (hgt : GOk X.K g t) (hsub : ∀ i ∈ t.ix, i ∈ vs)
    (h : tD X.K E (pLc vs t it pt pe) σ H Q) : tLc (iD X.K E it) g (tDt X.K E.no pt) (tD X.K E.no pe) vs σ H Q := by
  obtain ⟨ρ, S, mu, hs, en, s, h⟩ := h
  refine ⟨ρ, S, mu, hs, en, s, Post.mono (Post.bind h) fun xs S1 mu1 H1 g1 s1 z J ji D hD => ?_⟩
  obtain ⟨_, _, z⟩ := z
  have nD : D ∉ hs := fun q => s1.hid D q hD
  have enw := ((en.go g1).wipe vs)
  generalize hρ : wipeR ρ vs = ρw at z enw
  refine ⟨fun i m H' => m = xs.length - i ∧ i ≤ xs.length ∧ ∃ acc accV S' mu', Go S1 mu1 hs H1 S' mu' H' ∧ StoOk X.K E.ts S' mu' (D :: hs) H' ∧ H' D = some (.lst accV) ∧ DenL X.K (live S' mu' (D :: hs)) H' acc accV ∧ acc.length ≤ i ∧
    lcLoop t pt pe ρw xs [] S1 = lcLoop t pt pe ρw (xs.drop i) acc S', ⟨xs.length, by simp, Nat.zero_le _, [], [], S1, mu1, Go.updFresh Go.refl hD s1.hid _, s1.hide hD _, upd_same, by unfold DenL; rfl, Nat.zero_le _, by simp⟩, ?_⟩
  rintro i m H' ⟨rfl, hi, acc, accV, S', mu', gg, ss, hDv, dl, la, eq⟩
  obtain ⟨jl, ji'⟩ := ji
  obtain ⟨jg, js, jy⟩ := ji' E.ts [D] S' mu' H' (fun d hd => by rw [List.mem_singleton.mp hd]; exact hD) gg.w ss
  by_cases hlt : i < xs.length
  · refine .inr ⟨jg i hlt, _, fun H2 w => ⟨xs.length - (i + 1), by omega, w⟩, fun v H2 y => ?_⟩
    obtain ⟨gy, sy, x, ex, dx⟩ := jy i v H2 hlt y
    rw [drop_get ex] at eq
    have eq0 := eq
    rw [eq] at z
    unfold lcLoop at z
    cases ea : asgT t x ρw with
    | none => rw [ea] at z; exact z.elim
    | some ρ1 =>
      rw [ea] at z
      dsimp only at z
      have kx : Keep X.K (live S1 mu1 hs) (live S' mu' ([D] ++ hs)) H1 H2 := by
        have k1 := gg.keepX (K := X.K) (ex := [D]) (fun d hd => by rw [List.mem_singleton.mp hd]; exact hD)
        have k2 := gy.keep (K := X.K)
        exact ⟨fun a ws q => k2.tup a ws (k1.tup a ws q), fun a ws q n => let ⟨q1, n1⟩ := k1.lst a ws q n; k2.lst a ws q1 n1, fun a ws q n => let ⟨q1, n1⟩ := k1.rd a ws q n; k2.rd a ws q1 n1⟩
      refine hgt x ρw ρ1 S' mu' ([D] ++ hs) H2 (wipe σ vs) v _ (kx.env (fun r a q => gg.pre r a q) enw) dx ea fun σ2 en2 off => ⟨wipe_off off hsub, ?_⟩
      refine ⟨ρ1, S', mu', [D] ++ hs, en2, sy, ?_⟩
      cases ep : pt ρ1 S' with
      | bad => rw [ep] at z; exact z.elim
      | exc c as S2 => rw [ep] at z; exact z.elim
      | ok b S2 =>
        rw [ep] at z
        simp only [R.bind] at z
        intro mu3 H3 g3 s3
        have hD3 := g3.hid D (List.mem_cons_self ..) _ (gy.hid D (List.mem_cons_self ..) _ hDv (fun _ => nofun)) (fun _ => nofun)
        cases b with
        | false =>
          simp only [Bool.false_eq_true, if_false] at z ⊢
          refine ⟨True.intro, hlt, acc, accV, S2, mu3, ?_, s3, hD3, DenL.keep g3.keep _ _ (DenL.keep gy.keep _ _ dl), by omega, ?_⟩
          · exact (gg.trans (gy.show sy nD)).trans (g3.show s3 nD)
          · rw [eq0]
            conv => lhs; unfold lcLoop
            rw [ea]; dsimp only; rw [ep]; simp only [R.bind, Bool.false_eq_true, if_false]
        | true =>
          simp only [if_true] at z ⊢
          refine ⟨ρ1, S2, mu3, [D] ++ hs, en2.go g3, s3, ?_⟩
          cases ee : pe ρ1 S2 with
          | bad => rw [ee] at z; exact z.elim
          | exc c as S4 => rw [ee] at z; exact z.elim
          | ok yv S4 =>
            rw [ee] at z
            intro mu4 H4 g4 s4 w hw
            cases yv with
            | r n => exact z.elim
            | d d =>
              have hD4 := g4.hid D (List.mem_cons_self ..) _ hD3 (fun _ => nofun)
              have el := dl.length
              refine ⟨accV, hD4, by omega, True.intro, hlt, acc ++ [d], accV ++ [w], S4, mu4, ?_, s4.updHid _ hD4, upd_same, ?_, by simp; omega, ?_⟩
              · exact Go.updFresh (((gg.trans (gy.show sy nD)).trans (g3.show s3 nD)).trans (g4.show s4 nD)) hD s1.hid _
              · refine DenL.append (DenL.keep (keep_updHid _ hD4) _ _ (DenL.keep g4.keep _ _ (DenL.keep g3.keep _ _ (DenL.keep gy.keep _ _ dl)))) ?_
                unfold DenL
                exact ⟨w, [], rfl, DenD.keep (keep_updHid _ hD4) _ _ hw, by unfold DenL; rfl⟩
              · rw [eq0]
                conv => lhs; unfold lcLoop
                rw [ea]; dsimp only; rw [ep]; simp only [R.bind, if_true, ee]
  · have ei : i = xs.length := by omega
    subst ei
    refine .inl ⟨js, ?_⟩
    rw [List.drop_length] at eq
    rw [eq] at z
    unfold lcLoop at z
    have z : Post X.K E S1 mu1 hs H1 (fun x S' mu' H' => ∀ v, DenX X.K (live S' mu' hs) mu' H' x v → Q v H') (.ok (.d (.list acc)) S') := z
    refine z mu' H' gg ss.show _ ?_
    unfold DenX DenD
    refine ⟨D, accV, rfl, hDv, ?_, by omega, DenL.keep keep_show _ _ dl⟩
    rintro (q | ⟨r, m, e, hm, q⟩)
    · exact nD q
    · exact ss.hidn D (List.mem_cons_self ..) r m e hm q
end
end PB

namespace PB
open PySem PySem.Spec PyProof.Rows L2
variable {Ts : List Addr}

inductive Fl where
  | nx (ρ : Env0')
  | rt (x : Xv)
  | bk (ρ : Env0')
  | ct (ρ : Env0')
abbrev Ms := Env0' → Sto → R Fl
def endK (K : PySem.W.Frag) (hs : List Addr) (D : Ends) : Fl → Sto → List Addr → Hp → Prop
  | .nx ρ, S, mu, H => ∀ σ, EnvOk K (live S mu hs) mu H ρ σ → D.nx σ H
  | .rt x, S, mu, H => ∀ v, DenX K (live S mu hs) mu H x v → D.rt v H
  | .bk ρ, S, mu, H => ∀ σ, EnvOk K (live S mu hs) mu H ρ σ → D.bk σ H
  | .ct ρ, S, mu, H => ∀ σ, EnvOk K (live S mu hs) mu H ρ σ → D.ct σ H
def tDS (K : PySem.W.Frag) (E : XW) (p : Ms) : TS := fun D σ H => ∃ ρ S mu hs, EnvOk K (live S mu hs) mu H ρ σ ∧ StoOk K E.ts S mu hs H ∧ Post K E S mu hs H (endK K hs D) (p ρ S)

theorem Post.go {α : Type} {K : PySem.W.Frag} {E : XW} {S S1 : Sto} {mu mu1 hs : List Addr} {H H1 : Hp} {k : α → Sto → List Addr → Hp → Prop} {r : R α} (g : Go S mu hs H S1 mu1 H1) (h : Post K E S mu hs H k r) : Post K E S1 mu1 hs H1 k r := by
  cases r with
  | ok x S2 => exact fun mu2 H2 g2 s2 => h mu2 H2 (g.trans g2) s2
  | exc c as S2 => exact fun mu2 H2 g2 s2 => h mu2 H2 (g.trans g2) s2
  | bad => exact h

def pNext : Ms := fun ρ S => .ok (.nx ρ) S
def pBad : Ms := fun _ _ => .bad
def thenS (q : Ms) (fl : Fl) (S : Sto) : R Fl := match fl with
  | .nx ρ => q ρ S
  | fl => .ok fl S
def pSeq (p q : Ms) : Ms := fun ρ S => (p ρ S).bind (thenS q)
def pRet (p : Me) : Ms := fun ρ S => (p ρ S).bind fun x S1 => .ok (.rt x) S1
def pRetN : Ms := fun _ S => .ok (.rt (.d .none)) S
def pDrop (p : Me) : Ms := fun ρ S => (p ρ S).bind fun _ S1 => .ok (.nx ρ) S1
def pBk : Ms := fun ρ S => .ok (.bk ρ) S
def pCt : Ms := fun ρ S => .ok (.ct ρ) S
def pAsg (t : Tg) (p : Me) : Ms := fun ρ S => (p ρ S).bind fun x S1 => match asgT t x ρ with
  | some ρ1 => .ok (.nx ρ1) S1
  | none => .bad
def pIfS (c : Me) (p q : Ms) : Ms := fun ρ S => (tst c ρ S).bind fun b S1 => if b then p ρ S1 else q ρ S1
section
variable {X : Cx} {E : XW}
theorem s_nil : PSs X [] (tDS X.K E pNext) := PSs.imp pss_nil fun D σ H h => by
  obtain ⟨ρ, S, mu, hs, en, s, h⟩ := h
  exact h.here s σ en
theorem s_cons {st : Stmt} {rest : List Stmt} {p q : Ms} (h1 : PS X st (tDS X.K E p)) (h2 : PSs X rest (tDS X.K E q)) : PSs X (st :: rest) (tDS X.K E (pSeq p q)) := PSs.imp (pss_cons h1 h2) fun D σ H h => by
  obtain ⟨ρ, S, mu, hs, en, s, h⟩ := h
  refine ⟨ρ, S, mu, hs, en, s, Post.mono (Post.bind h) fun fl S1 mu1 H1 g1 s1 z => ?_⟩
  obtain ⟨_, _, z⟩ := z
  cases fl with
  | nx ρ1 => exact fun σ1 en1 => ⟨ρ1, S1, mu1, hs, en1, s1, z⟩
  | rt x => exact z.here s1
  | bk ρ1 => exact z.here s1
  | ct ρ1 => exact z.here s1
theorem s_bad {st : Stmt} : PS X st (tDS X.K E pBad) := PS.imp ps_never fun D σ H h => by
  obtain ⟨ρ, S, mu, hs, en, s, h⟩ := h
  exact h
theorem s_pass {pos : Pos} : PS X (.Pass pos) (tDS X.K E pNext) := PS.imp ps_pass fun D σ H h => by
  obtain ⟨ρ, S, mu, hs, en, s, h⟩ := h
  exact h.here s σ en
theorem s_doc {x j pos pos'} : PS X (.Expr (.Constant (.str x) j pos) pos') (tDS X.K E pNext) := PS.imp ps_doc fun D σ H h => by
  obtain ⟨ρ, S, mu, hs, en, s, h⟩ := h
  exact h.here s σ en
theorem s_bk {pos : Pos} : PS X (.Break pos) (tDS X.K E pBk) := PS.imp ps_break fun D σ H h => by
  obtain ⟨ρ, S, mu, hs, en, s, h⟩ := h
  exact h.here s σ en
theorem s_ct {pos : Pos} : PS X (.Continue pos) (tDS X.K E pCt) := PS.imp ps_continue fun D σ H h => by
  obtain ⟨ρ, S, mu, hs, en, s, h⟩ := h
  exact h.here s σ en
theorem s_ret {e : Expr} {p : Me} {pos : Pos} (he : PE X e (tD X.K E p)) : PS X (.Return (some e) pos) (tDS X.K E (pRet p)) := PS.imp (ps_ret he) fun D σ H h => by
  obtain ⟨ρ, S, mu, hs, en, s, h⟩ := h
  exact ⟨ρ, S, mu, hs, en, s, Post.mono (Post.bind h) fun x S1 mu1 H1 g1 s1 z v hv => z.2.2.here s1 v hv⟩
theorem s_retN {pos : Pos} : PS X (.Return none pos) (tDS X.K E pRetN) := PS.imp ps_retN fun D σ H h => by
  obtain ⟨ρ, S, mu, hs, en, s, h⟩ := h
  exact h.here s .non (by unfold DenX DenD; rfl)
theorem s_expr {e : Expr} {p : Me} {pos : Pos} (he : PE X e (tD X.K E p)) (hs : swapsWith e none pos.line X.env = pure false) : PS X (.Expr e pos) (tDS X.K E (pDrop p)) := PS.imp (ps_expr he hs) fun D σ H h => by
  obtain ⟨ρ, S, mu, hs, en, s, h⟩ := h
  exact ⟨ρ, S, mu, hs, en, s, Post.mono (Post.bind h) fun x S1 mu1 H1 g1 s1 z v hv => z.2.2.here s1 σ (en.go g1)⟩
theorem asg_red {p : Me} {g : TG} {t : Tg} (hg : GOk X.K g t) {D : Ends} {σ : L2.St} {H : Hp} (h : tDS X.K E (pAsg t p) D σ H) : tAsg (tD X.K E p) g D σ H := by
  obtain ⟨ρ, S, mu, hs, en, s, h⟩ := h
  refine ⟨ρ, S, mu, hs, en, s, Post.mono (Post.bind h) fun x S1 mu1 H1 g1 s1 z v hv => ?_⟩
  obtain ⟨_, _, z⟩ := z
  cases ea : asgT t x ρ with
  | none => rw [ea] at z; exact z.elim
  | some ρ1 =>
    rw [ea] at z
    exact hg x ρ ρ1 S1 mu1 hs H1 σ v _ (en.go g1) hv ea fun σ' en' _ => z.here s1 σ' en'
theorem s_asg {tg e : Expr} {p : Me} {g : TG} {t : Tg} {pos : Pos} (he : PE X e (tD X.K E p)) (hg : PG X tg g) (hk : GOk X.K g t) (hs : swapsWithSole [tg] e pos.line X.env = pure false) (hw : swappedStores [tg] e X.env = pure none)
    (h1 : (assignEach [tg] X.env).map (·.2) = [assign tg X.env]) : PS X (.Assign [tg] e pos) (tDS X.K E (pAsg t p)) := PS.imp (ps_asg he hg hs hw h1) fun D σ H h => asg_red hk h
theorem s_set {i : Nat} {x : Str} {e : Expr} {p : Me} {pos pos' : Pos} (hN : X.N.Nodup) (hi : X.N[i]? = some x) (hx : Loc X.env.scope x) (he : PE X e (tD X.K E p)) (hs : swapsWith e (some (.Name x pos')) pos.line X.env = pure false)
    (hf : X.fn x = true ∨ X.env.scope.names.lookup x = some .local) : PS X (.Assign [.Name x pos'] e pos) (tDS X.K E (pAsg (.nm i) p)) := PS.imp (ps_set hN hi hx he hs hf) fun D σ H h => asg_red gok_nm h
theorem s_if {c : Expr} {a b : List Stmt} {pc : Me} {p q : Ms} {pos : Pos} (hc : PT X c (tDt X.K E (tst pc))) (ha : PSs X a (tDS X.K E p)) (hb : PSs X b (tDS X.K E q)) : PS X (.If c a b pos) (tDS X.K E (pIfS pc p q)) := PS.imp (ps_if hc ha hb) fun D σ H h => by
  obtain ⟨ρ, S, mu, hs, en, s, h⟩ := h
  refine ⟨ρ, S, mu, hs, en, s, Post.mono (Post.bind h) fun b S1 mu1 H1 g1 s1 z => ?_⟩
  obtain ⟨_, _, z⟩ := z
  cases b with
  | true => rw [if_pos rfl] at z ⊢; exact ⟨ρ, S1, mu1, hs, en.go g1, s1, z⟩
  | false => rw [if_neg Bool.false_ne_true] at z ⊢; exact ⟨ρ, S1, mu1, hs, en.go g1, s1, z⟩
/-- a, b = x, y of plain names: no pair is made -/
def pPar (i j : Nat) (q : Mes) : Ms := fun ρ S => (q ρ S).bind fun xs S1 => match xs with
  | [x, y] => .ok (.nx ((ρ.set i (some x)).set j (some y))) S1
  | _ => .bad
theorem s_par {i j : Nat} {x y : Str} {a b : Expr} {q : Mes} {px py pt pos : Pos} {kt k2 pt2} (hc : X.calm = true) (hN : X.N.Nodup) (hi : X.N[i]? = some x) (hj : X.N[j]? = some y) (hij : i ≠ j)
    (hx : X.env.scope.names.lookup x = some .local) (hy : X.env.scope.names.lookup y = some .local) (ha : PA X [a, b] (tDs X.K E q))
    (hw : swappedStores [.Tuple [.Name x px, .Name y py] kt pt] (.Tuple [a, b] k2 pt2) X.env = pure (some [x, y]))
    (hs : swapsWithSole [.Tuple [.Name x px, .Name y py] kt pt] (.Tuple [a, b] k2 pt2) pos.line X.env = pure false) :
    PS X (.Assign [.Tuple [.Name x px, .Name y py] kt pt] (.Tuple [a, b] k2 pt2) pos) (tDS X.K E (pPar i j q)) := PS.imp (ps_par hc hN hi hj hij hx hy ha hw hs) fun D σ H h => by
  obtain ⟨ρ, S, mu, hs, en, s, h⟩ := h
  refine ⟨ρ, S, mu, hs, en, s, Post.mono (Post.bind h) fun xs S1 mu1 H1 g1 s1 z vs hvs => ?_⟩
  obtain ⟨_, _, z⟩ := z
  match xs, z, hvs with
  | [x, y], z, hvs =>
    obtain ⟨v, u, rfl, hv, hu⟩ := pair2 hvs
    exact ⟨v, u, rfl, z.here s1 _ (((en.go g1).set hv).set hu)⟩
  | [], z, _ => exact z.elim
  | [_], z, _ => exact z.elim
  | _ :: _ :: _ :: _, z, _ => exact z.elim

def loopS (k : Env0' → Sto → R Fl) (fl : Fl) (S : Sto) : R Fl := match fl with
  | .nx ρ => k ρ S
  | .ct ρ => k ρ S
  | .bk ρ => .ok (.nx ρ) S
  | .rt x => .ok (.rt x) S
def forL (t : Tg) (p : Ms) : List Xv → Ms
  | [], ρ, S => .ok (.nx ρ) S
  | x :: xs, ρ, S => match asgT t x ρ with
    | none => .bad
    | some ρ1 => (p ρ1 S).bind (loopS (forL t p xs))
def pFor (t : Tg) (it : Mes) (p : Ms) : Ms := fun ρ S => (it ρ S).bind fun xs S1 => forL t p xs ρ S1
theorem s_for {tg iter : Expr} {body : List Stmt} {it : Mes} {g : TG} {t : Tg} {p : Ms} {pos : Pos} (hp : PassesOwn (model X.prog X.w) X.A X.env X.xe) (hc : X.calm = true) (hi : PI X tg iter (iD X.K E it)) (hg : PG X tg g) (hk : GOk X.K g t) (hb : PSs X body (tDS X.K E p))
    (hs : ∀ x, foldedSetIterable iter X.env x = pure x) : PS X (.For tg iter body [] pos) (tDS X.K E (pFor t it p)) := by
  refine PS.imp (ps_for hp hc hi hg hb hs) fun D σ H h => ?_
  obtain ⟨ρ, S, mu, hs, en, s, h⟩ := h
  refine ⟨ρ, S, mu, hs, en, s, Post.mono (Post.bind h) fun xs S1 mu1 H1 g1 s1 z J ji => ?_⟩
  obtain ⟨_, _, z⟩ := z
  refine ⟨fun i m σ' H' => m = xs.length - i ∧ i ≤ xs.length ∧ ∃ ρ' S' mu', Go S1 mu1 hs H1 S' mu' H' ∧ StoOk X.K E.ts S' mu' hs H' ∧ EnvOk X.K (live S' mu' hs) mu' H' ρ' σ' ∧ Post X.K E S' mu' hs H' (endK X.K hs D) (forL t p (xs.drop i) ρ' S'),
    ⟨xs.length, by simp, Nat.zero_le _, ρ, S1, mu1, Go.refl, s1, en.go g1, by simpa using z⟩, ?_⟩
  rintro i m σ' H' ⟨rfl, hi, ρ', S', mu', gg, ss, en', z'⟩
  obtain ⟨jl, ji'⟩ := ji
  obtain ⟨jg, js, jy⟩ := ji' E.ts [] S' mu' H' (fun d hd => by cases hd) gg.w ss
  by_cases hlt : i < xs.length
  · refine .inr ⟨jg i hlt, _, fun σ2 H2 w => ⟨xs.length - (i + 1), by omega, w⟩, fun v H2 y => ?_⟩
    obtain ⟨gy, sy, x, ex, dx⟩ := jy i v H2 hlt y
    rw [drop_get ex] at z'
    unfold forL at z'
    cases ea : asgT t x ρ' with
    | none => rw [ea] at z'; exact z'.elim
    | some ρ1 =>
      rw [ea] at z'
      have gy : Go S' mu' hs H' S' mu' H2 := gy
      refine hk x ρ' ρ1 S' mu' hs H2 σ' v _ (en'.go gy) dx ea fun σ2 en2 _ => ⟨ρ1, S', mu', hs, en2, sy, ?_⟩
      have z2 : Post X.K E S' mu' hs H2 (endK X.K hs D) ((p ρ1 S').bind (loopS (forL t p (xs.drop (i + 1))))) := Post.go gy z'
      refine Post.mono (Post.bind z2) fun fl S3 mu3 H3 g3 s3 z3 => ?_
      obtain ⟨_, _, z3⟩ := z3
      have g4 : Go S1 mu1 hs H1 S3 mu3 H3 := (gg.trans gy).trans g3
      cases fl with
      | nx ρ2 => exact fun σ3 en3 => ⟨rfl, hlt, ρ2, S3, mu3, g4, s3, en3, z3⟩
      | ct ρ2 => exact fun σ3 en3 => ⟨rfl, hlt, ρ2, S3, mu3, g4, s3, en3, z3⟩
      | bk ρ2 => exact z3.here s3
      | rt x => exact z3.here s3
  · have ei : i = xs.length := by omega
    subst ei
    rw [List.drop_length] at z'
    exact .inl ⟨js, z'.here ss σ' en'⟩

def whL (c : Me) (p : Ms) : Nat → Ms
  | 0 => fun _ _ => .bad
  | n + 1 => fun ρ S => (tst c ρ S).bind fun b S1 => if b then (p ρ S1).bind (loopS (whL c p n)) else .ok (.nx ρ) S1
theorem s_while {c : Expr} {body : List Stmt} {pc : Me} {p : Ms} {pos : Pos} (n : Nat) (hp : PassesOwn (model X.prog X.w) X.A X.env X.xe) (hc : PT X c (tDt X.K E (tst pc))) (hb : PSs X body (tDS X.K E p)) :
    PS X (.While c body [] pos) (tDS X.K E (whL pc p n)) := by
  refine PS.imp (ps_while hp hc hb) fun D σ H h => ?_
  obtain ⟨ρ, S, mu, hs, en, s, h⟩ := h
  refine ⟨fun m σ' H' => ∃ ρ' S' mu', StoOk X.K E.ts S' mu' hs H' ∧ EnvOk X.K (live S' mu' hs) mu' H' ρ' σ' ∧ Post X.K E S' mu' hs H' (endK X.K hs D) (whL pc p m ρ' S'), ⟨n, ρ, S, mu, s, en, h⟩, ?_⟩
  rintro m σ' H' ⟨ρ', S', mu', ss, en', z⟩
  cases m with
  | zero => exact z.elim
  | succ m =>
    unfold whL at z
    refine ⟨ρ', S', mu', hs, en', ss, Post.mono (Post.bind z) fun b S1 mu1 H1 g1 s1 z1 => ?_⟩
    obtain ⟨_, _, z1⟩ := z1
    cases b with
    | false => rw [if_neg Bool.false_ne_true] at z1 ⊢; exact z1.here s1 _ (en'.go g1)
    | true =>
      rw [if_pos rfl] at z1 ⊢
      refine ⟨_, fun σ2 H2 w => ⟨m, Nat.lt_succ_self _, w⟩, ρ', S1, mu1, hs, en'.go g1, s1, Post.mono (Post.bind z1) fun fl S3 mu3 H3 g3 s3 z3 => ?_⟩
      obtain ⟨_, _, z3⟩ := z3
      cases fl with
      | nx ρ2 => exact fun σ3 en3 => ⟨ρ2, S3, mu3, s3, en3, z3⟩
      | ct ρ2 => exact fun σ3 en3 => ⟨ρ2, S3, mu3, s3, en3, z3⟩
      | bk ρ2 => exact z3.here s3
      | rt x => exact z3.here s3
end
end PB

namespace PB
open PySem PySem.Spec PyProof.Rows L2
variable {Ts : List Addr}

section
variable {K : PySem.W.Frag} {E : XW} {S S1 S' : Sto} {mu mu1 mu' hs : List Addr} {H H1 H' : Hp}
theorem non_denX {lv : Addr → Prop} : DenX K lv mu H (.d .none) .non := by unfold DenX DenD; rfl
theorem post_chg {Q : VK} {a : Addr} {n : Nat} {o o' : MO} {h0 h' : HO} (s : StoOk K E.ts S mu hs H) (e : S[n]? = some o) (m : o.mut = true) (m' : o'.mut = true) (q : mu[n]? = some a) (h : H a = some h0) (c : Chg h0)
    (hm : MOk K (live (S.set n o') mu hs) mu (upd H a h') a o') (z : Post K E S mu hs H (fun z S' mu' H' => ∀ v, DenX K (live S' mu' hs) mu' H' z v → Q v H') (.ok (.d .none) (S.set n o'))) : Q .non (upd H a h') :=
  z mu _ (Go.chg s o' h' e m q h c) (s.chg e m m' q h c hm) .non non_denX

def pM1 (f : Nat → Xv → Sto → R Xv) (po pe : Me) : Me := fun ρ S => (po ρ S).bind fun x S1 => match x with
  | .r n => (match S1[n]? with
    | some (.lst _) => (pe ρ S1).bind fun y S2 => f n y S2
    | _ => .bad)
  | _ => .bad
theorem m1_red {r : V → List V → Hp → VK → Prop} {f : Nat → Xv → Sto → R Xv} {po pe : Me} {σ : L2.St} {Q : VK}
    (hf : ∀ (n : Nat) (y : Xv) (S : Sto) (mu hs : List Addr) (H : Hp) (a : Addr) (v : V), StoOk K E.ts S mu hs H → mu[n]? = some a → DenX K (live S mu hs) mu H y v →
      Post K E S mu hs H (fun z S' mu' H' => ∀ v, DenX K (live S' mu' hs) mu' H' z v → Q v H') (f n y S) → r (.ref a) [v] H Q)
    (h : tD K E (pM1 f po pe) σ H Q) : tBM K "list" r (tD K E po) (tCons (tD K E pe) tNil) σ H Q := by
  obtain ⟨ρ, S, mu, hs, en, s, h⟩ := h
  refine ⟨ρ, S, mu, hs, en, s, Post.mono (Post.bind h) fun x S1 mu1 H1 g1 s1 z v hv => ?_⟩
  obtain ⟨_, _, z⟩ := z
  cases x with
  | d d => exact z.elim
  | r n =>
    obtain ⟨a, rfl, ha⟩ := hv
    dsimp only at z
    cases en1 : S1[n]? with
    | none => rw [en1] at z; exact z.elim
    | some o =>
      rw [en1] at z
      cases o with
      | lst xs =>
        obtain ⟨_, vs, ea, _⟩ := s1.ok n _ a en1 ha
        refine ⟨.inl ⟨rfl, vs, .inl (.inl ea)⟩, ρ, S1, mu1, hs, en.go g1, s1, Post.mono (Post.bind z) fun y S2 mu2 H2 g2 s2 z2 v hv => ?_⟩
        obtain ⟨_, _, z2⟩ := z2
        exact hf n y S2 mu2 hs H2 a v s2 (g2.pre _ _ ha) hv z2
      | _ => exact z.elim
def fApp (n : Nat) (y : Xv) (S : Sto) : R Xv := match S[n]? with
  | some (.lst xs) => if xs.length < sizeLine then .ok (.d .none) (S.set n (.lst (xs ++ [y]))) else .bad
  | _ => .bad
/-- the first place of an equal one -/
def placeD (ds : List D) (d : D) : Option Nat := ds.findIdx? fun y => PyData.eqv y d
def fRem (n : Nat) (y : Xv) (S : Sto) : R Xv := match S[n]? with
  | some (.lst xs) => (match allD xs, datOf S y with
    | some ds, some d => if PyData.plainAll ds && d.plain && decide (d.depth ≤ 64) then (match placeD ds d with
      | some j => .ok (.d .none) (S.set n (.lst (xs.eraseIdx j)))
      | none => .bad) else .bad
    | _, _ => .bad)
  | _ => .bad
theorem DenXs.eraseIdx {lv : Addr → Prop} : ∀ {xs : List Xv} {vs : List V} (i : Nat), DenXs K lv mu H xs vs → DenXs K lv mu H (xs.eraseIdx i) (vs.eraseIdx i)
  | _, _, _, .nil => .nil
  | _, _, 0, .cons _ t => t
  | _, _, i + 1, .cons q t => .cons q (DenXs.eraseIdx i t)
theorem DenXs.set {lv : Addr → Prop} {x : Xv} {v : V} : ∀ {xs : List Xv} {vs : List V} (i : Nat), DenXs K lv mu H xs vs → DenX K lv mu H x v → DenXs K lv mu H (xs.set i x) (vs.set i v)
  | _, _, _, .nil, _ => .nil
  | _, _, 0, .cons _ t, h => .cons h t
  | _, _, i + 1, .cons q t, h => .cons q (DenXs.set i t h)
end

section
variable {X : Cx} {E : XW}
/-- xs.append(e) -/
theorem e_app {o e : Expr} {apos cpos : Pos} {po pe : Me} (ho : PE X o (tD X.K E po)) (he : PE X e (tD X.K E pe)) (hbase : attributeBase o "append" X.env (eval o X.env) = eval o X.env)
    (hline : (apos.endLine == cpos.line) = true) (hs : starEach [e] X.env = [(false, eval e X.env)]) :
    PE X (.Call (.Attribute o "append" apos) [e] [] cpos) (tD X.K E (pM1 fApp po pe)) :=
  PE.imp (pe_bm PySem.F.plainAttrs_list PySem.F.slot_list_append PySem.F.type_list_append mt_append ho (pa_cons he pa_nil (by rw [hs]; rfl)) hbase (by rw [hs]; rfl) hline (by rw [hs]; rfl) rfl) fun σ H Q h =>
    m1_red (fun n y S mu hs H a v s ha hv z => by
      unfold fApp at z
      cases en : S[n]? with
      | none => rw [en] at z; exact z.elim
      | some o =>
        rw [en] at z
        cases o with
        | lst xs =>
          simp only at z
          split at z
          · rename_i hl
            obtain ⟨l, vs, ea, dv⟩ := s.ok n _ a en ha
            have el := Paired.length dv
            refine ⟨a, vs, v, rfl, rfl, ea, by omega, ?_⟩
            refine post_chg (o' := .lst (xs ++ [y])) s en rfl rfl ha ea True.intro ⟨by simp; omega, vs ++ [v], upd_same, ?_⟩ z
            have g := Go.chg s (.lst (xs ++ [y])) (.lst (vs ++ [v])) en rfl ha ea True.intro
            exact Paired.snoc (dv.go g) (hv.go g)
          · exact z.elim
        | _ => exact z.elim) h
def rRemD (K : PySem.W.Frag) : V → List V → Hp → VK → Prop := fun x xs H Q => ∃ (a : Addr) (vs : List V) (y : V) (d : D) (ds : List D) (j : Nat), x = .ref a ∧ xs = [y] ∧ H a = some (.lst vs) ∧ DpAll K H vs ds ∧ Dp K H y d ∧
  PyData.plainAll ds = true ∧ d.plain = true ∧ d.depth ≤ 64 ∧ placeD ds d = some j ∧ Q .non (upd H a (.lst (vs.eraseIdx j)))
theorem mt_remD (hu : X.A.units + 65 < cLine) : MtR X "list.remove" (rRemD X.K) := by
  intro pins s σ H x xs v us Q I rx rxs h
  obtain ⟨a, vs, y, d, ds, j, rfl, rfl, hl, hv, hy, sl, sd, hd, hp, q⟩ := h
  cases rx
  cases rxs with
  | cons ry rt =>
    rename_i uy ut
    cases rt
    obtain ⟨bs, r1⟩ := Dp.reads I d y uy hy ry
    obtain ⟨its, n, rv, ho, hz⟩ := I.lst hl
    obtain ⟨as, h4⟩ := Dp.readsAll I ds _ its hv rv
    have hlen := rv.length
    refine SeqAt.remove_list_data (vs := its.toArray) ⟨_, ho, rfl, n, rfl⟩ (show ReadsAll s.heap its.toArray.toList ds as from h4) r1 sl sd (by omega) hp (by simp only [List.size_toArray]; omega) ?_
    have hj : j < its.length := by
      have h5 := SeqAt.ReadsAll.length ds its as h4
      obtain ⟨h6, _⟩ := List.findIdx?_eq_some_iff_getElem.mp hp
      omega
    exact ⟨.non, _, I.lset (its' := its.eraseIdx j) hl ho (by simp [Array.eraseIdxIfInBounds, hj]) (rv.eraseIdx j) (by have := len_erase vs j; omega), rfl, q⟩
/-- xs.remove(e) of data -/
theorem e_rem {o e : Expr} {apos cpos : Pos} {po pe : Me} (hu : X.A.units + 100 < cLine) (ho : PE X o (tD X.K E po)) (he : PE X e (tD X.K E pe)) (hbase : attributeBase o "remove" X.env (eval o X.env) = eval o X.env)
    (hline : (apos.endLine == cpos.line) = true) (hs : starEach [e] X.env = [(false, eval e X.env)]) :
    PE X (.Call (.Attribute o "remove" apos) [e] [] cpos) (tD X.K E (pM1 fRem po pe)) :=
  PE.imp (pe_bm PySem.F.plainAttrs_list PySem.F.slot_list_remove PySem.F.type_list_remove (mt_remD (by omega)) ho (pa_cons he pa_nil (by rw [hs]; rfl)) hbase (by rw [hs]; rfl) hline (by rw [hs]; rfl) rfl) fun σ H Q h =>
    m1_red (fun n y S mu hs H a v s ha hv z => by
      unfold fRem at z
      cases en : S[n]? with
      | none => rw [en] at z; exact z.elim
      | some o =>
        rw [en] at z
        cases o with
        | lst xs =>
          simp only at z
          split at z
          · rename_i ds d e1 e2
            split at z
            · rename_i hc
              simp only [Bool.and_eq_true, decide_eq_true_eq] at hc
              split at z
              · rename_i j hj
                obtain ⟨l, vs, ea, dv⟩ := s.ok n _ a en ha
                refine ⟨a, vs, v, d, ds, j, rfl, rfl, ea, DenL.dp _ _ (DenXs.allD dv e1), hv.dp s e2, hc.1.1, hc.1.2, hc.2, hj, ?_⟩
                refine post_chg (o' := .lst (xs.eraseIdx j)) s en rfl rfl ha ea True.intro ⟨by have := len_erase xs j; omega, vs.eraseIdx j, upd_same, ?_⟩ z
                exact DenXs.eraseIdx j (dv.go (Go.chg s (.lst (xs.eraseIdx j)) (.lst (vs.eraseIdx j)) en rfl ha ea True.intro))
              · exact z.elim
            · exact z.elim
          · exact z.elim
        | _ => exact z.elim) h

def kvPut (kvs : List (Key × Xv)) (k : Key) (x : Xv) : List (Key × Xv) :=
  if (kvs.any fun kv => decide (kv.1 = k)) = true then kvs.map (fun kv => if kv.1 = k then (kv.1, x) else kv) else kvs ++ [(k, x)]
theorem kv_any {K : PySem.W.Frag} {lv : Addr → Prop} {mu : List Addr} {H : Hp} {k : Key} : ∀ {kvs : List (Key × Xv)} {ws : List (Key × V)}, DenKv K lv mu H kvs ws → (ws.any fun kv => decide (kv.1 = k)) = kvs.any fun kv => decide (kv.1 = k)
  | _, _, .nil => rfl
  | _, _, .cons q t => by rw [List.any_cons, List.any_cons, kv_any t, q.1]
theorem kv_map {K : PySem.W.Frag} {lv : Addr → Prop} {mu : List Addr} {H : Hp} {k : Key} {x : Xv} {v : V} (hx : DenX K lv mu H x v) : ∀ {kvs : List (Key × Xv)} {ws : List (Key × V)}, DenKv K lv mu H kvs ws →
    DenKv K lv mu H (kvs.map fun kv => if kv.1 = k then (kv.1, x) else kv) (ws.map fun kv => if kv.1 = k then (kv.1, v) else kv)
  | _, _, .nil => .nil
  | (a, y) :: kvs, (b, z) :: ws, .cons q t => by
    obtain ⟨e, q⟩ := q
    have e : a = b := e
    subst e
    rw [List.map_cons, List.map_cons]
    refine .cons ?_ (kv_map hx t)
    by_cases h : a = k
    · simp only [h, if_true]; exact ⟨True.intro, hx⟩
    · simp only [h, if_false]; exact ⟨True.intro, q⟩
theorem kv_put {K : PySem.W.Frag} {lv : Addr → Prop} {mu : List Addr} {H : Hp} {k : Key} {x : Xv} {v : V} (hx : DenX K lv mu H x v) {kvs : List (Key × Xv)} {ws : List (Key × V)} (h : DenKv K lv mu H kvs ws) : DenKv K lv mu H (kvPut kvs k x) (putK ws k v) := by
  unfold kvPut putK
  rw [kv_any h]
  split
  · exact kv_map hx h
  · exact Paired.snoc h ⟨rfl, hx⟩
def setI (o i x : Xv) (S : Sto) : Option Sto := match o, i with
  | .r n, .d d => (match S[n]? with
    | some (.lst xs) => (match d with
      | .int k => (match ixN xs.length k with
        | some j => some (S.set n (.lst (xs.set j x)))
        | none => none)
      | _ => none)
    | some (.dct kvs) => (match keyD d with
      | some k => if kvs.length < sizeLine then some (S.set n (.dct (kvPut kvs k x))) else none
      | none => none)
    | _ => none)
  | _, _ => none
def pSetI (po pi pv : Me) : Ms := fun ρ S => (pv ρ S).bind fun x S1 => (po ρ S1).bind fun o S2 => (pi ρ S2).bind fun i S3 => match setI o i x S3 with
  | some S4 => .ok (.nx ρ) S4
  | none => .bad
theorem PSet.or {r r' : TSet} (h : PSet X r) (h' : PSet X r') : PSet X (fun o i v H Q => r o i v H Q ∨ r' o i v H Q) := fun pins s σ H o i v ov iv u Q I ro ri rv q => by
  rcases q with q | q
  · exact h pins s σ H o i v ov iv u Q I ro ri rv q
  · exact h' pins s σ H o i v ov iv u Q I ro ri rv q
theorem s_setI {o i e : Expr} {po pi pv : Me} {pos pos' : Pos} (hu : X.A.units + 100 < cLine) (ho : PE X o (tD X.K E po)) (hi : PE X i (tD X.K E pi)) (he : PE X e (tD X.K E pv))
    (ha : ∀ v, assign (.Subscript o i pos') X.env v = (do
      let ov ← holding [v] (eval o X.env)
      let iv ← holding [v, ov] (eval i X.env)
      standAt pos'
      holding [v, ov, iv] (setItem ov iv v)
      release [v, ov, iv] []))
    (hs : swapsWithSole [.Subscript o i pos'] e pos.line X.env = pure false) (hw : swappedStores [.Subscript o i pos'] e X.env = pure none) (h1 : (assignEach [.Subscript o i pos'] X.env).map (·.2) = [assign (.Subscript o i pos') X.env]) :
    PS X (.Assign [.Subscript o i pos'] e pos) (tDS X.K E (pSetI po pi pv)) := PS.imp (ps_asg he (pg_sub ho hi (PSet.or set_list (set_dict (by omega))) ha) hs hw h1) fun D σ H h => by
  obtain ⟨ρ, S, mu, hs, en, s, h⟩ := h
  refine ⟨ρ, S, mu, hs, en, s, Post.mono (Post.bind h) fun x S1 mu1 H1 g1 s1 z v hv => ?_⟩
  obtain ⟨_, _, z⟩ := z
  refine ⟨ρ, S1, mu1, hs, en.go g1, s1, Post.mono (Post.bind z) fun o S2 mu2 H2 g2 s2 z u hu2 => ?_⟩
  obtain ⟨_, _, z⟩ := z
  refine ⟨ρ, S2, mu2, hs, (en.go g1).go g2, s2, Post.mono (Post.bind z) fun i S3 mu3 H3 g3 s3 z w hw => ?_⟩
  obtain ⟨_, _, z⟩ := z
  have hv := (hv.go g2).go g3
  have hu2 := hu2.go g3
  have en3 := ((en.go g1).go g2).go g3
  cases es : setI o i x S3 with
  | none => rw [es] at z; exact z.elim
  | some S4 =>
    rw [es] at z
    cases o with
    | d _ => cases es
    | r n =>
      cases i with
      | r _ => cases es
      | d d =>
        obtain ⟨a, rfl, hma⟩ := hu2
        simp only [setI] at es
        cases esn : S3[n]? with
        | none => rw [esn] at es; cases es
        | some o =>
          rw [esn] at es
          cases o with
          | lst xs =>
            obtain ⟨l, vs, ea, dv⟩ := s3.ok n _ a esn hma
            cases d with
            | int k =>
              dsimp only at es
              cases hj : ixN xs.length k with
              | none => rw [hj] at es; cases es
              | some j =>
                rw [hj] at es
                cases es
                cases den_int hw
                have g := Go.chg s3 (.lst (xs.set j x)) (.lst (vs.set j v)) esn rfl hma ea True.intro
                refine .inl ⟨a, vs, k, j, rfl, rfl, ea, by rw [← Paired.length dv]; exact hj, ?_⟩
                exact z mu3 _ g (s3.chg esn rfl rfl hma ea True.intro ⟨by simpa using l, vs.set j v, upd_same, DenXs.set j (dv.go g) (hv.go g)⟩) σ (en3.go g)
            | _ => cases es
          | dct kvs =>
            obtain ⟨ws, ea, dv⟩ := s3.ok n _ a esn hma
            dsimp only at es
            cases hk : keyD d with
            | none => rw [hk] at es; cases es
            | some k =>
              rw [hk] at es
              dsimp only at es
              split at es
              · rename_i hl
                cases es
                cases keyD_den hw hk
                have g := Go.chg s3 (.dct (kvPut kvs k x)) (.dK (putK ws k v)) esn rfl hma ea True.intro
                refine .inr ⟨a, _, rfl, .k ea (by rw [← Paired.length dv]; exact hl), ?_⟩
                exact z mu3 _ g (s3.chg esn rfl rfl hma ea True.intro ⟨putK ws k v, upd_same, kv_put (hv.go g) (Paired.mapP dv fun p q t => ⟨t.1, t.2.go g⟩)⟩) σ (en3.go g)
              · cases es
          | _ => cases es
end
end PB

namespace PB
open PySem PySem.Spec PyProof.Rows L2
variable {Ts : List Addr}

section
variable {K : PySem.W.Frag} {E : XW} {S S1 S' : Sto} {mu mu1 mu' hs : List Addr} {H H1 H' : Hp} {D : Addr}
theorem keep_updHidC {h0 : HO} (o : HO) (hD : H D = some h0) (c : Chg h0) : Keep K (live S mu (D :: hs)) (live S mu (D :: hs)) H (upd H D o) where
  tup := fun a ws h => by
    have ne : ∀ {u : HO}, H a = some u → ¬ Chg u → a ≠ D := fun {u} q n e => by rw [e, hD] at q; cases q; exact n c
    rcases h with h | h
    · rcases h with h | ⟨u, h⟩
      · exact .inl (.inl (by rw [upd_ne (ne h fun z => z)]; exact h))
      · exact .inl (.inr ⟨u, by rw [upd_ne (ne h fun z => z)]; exact h⟩)
    · exact .inr h
  lst := fun a ws h n => ⟨by rw [upd_ne (fun e => n (.inl (by rw [e]; exact List.mem_cons_self ..)))]; exact h, n⟩
  rd := fun a ws h n => by
    refine ⟨?_, n⟩
    have ne : a ≠ D := fun e => n (.inl (by rw [e]; exact List.mem_cons_self ..))
    rcases h with h | ⟨u, h⟩
    · exact .inl (by rw [upd_ne ne]; exact h)
    · exact .inr ⟨u, by rw [upd_ne ne]; exact h⟩
theorem StoOk.updHidC {h0 : HO} (s : StoOk K Ts S mu (D :: hs) H) (o : HO) (hD : H D = some h0) (c : Chg h0) : StoOk K Ts S mu (D :: hs) (upd H D o) := by
  have k : Keep K (live S mu (D :: hs)) (live S mu (D :: hs)) H (upd H D o) := keep_updHidC o hD c
  refine ⟨s.len, s.inj, fun r m a e q => MOk.go k (fun _ _ h => h) (fun hm o' h => ?_) (s.ok r m a e q), fun a ha => ?_, s.hidn, fun P hP => let ⟨ps, e, t⟩ := s.tab P hP; ⟨ps, (upd_ne (fun z => by rw [z, hD] at e; cases e; exact c)).trans e, t⟩⟩
  · rw [upd_ne (fun z => s.hidn D (List.mem_cons_self ..) r m e hm (by rw [← z]; exact q))]; exact h
  · by_cases e : a = D
    · rw [e, upd_same]; exact nofun
    · rw [upd_ne e]; exact s.hid a ha
theorem live_reveal {o : MO} {a : Addr} (s : StoOk K Ts S mu (D :: hs) H) (m : o.mut = true) : live (S ++ [o]) (mu ++ [D]) hs a ↔ live S mu (D :: hs) a := by
  constructor
  · rintro (h | ⟨r, u, e, mu', q⟩)
    · exact .inl (List.mem_cons_of_mem _ h)
    · rcases get_snoc e with e1 | ⟨e1, e2⟩
      · rw [List.getElem?_append_left (by rw [s.len]; exact (List.getElem?_eq_some_iff.mp e1).1)] at q
        exact .inr ⟨r, u, e1, mu', q⟩
      · subst e1
        rw [← s.len, get_snoc_new] at q
        cases q
        exact .inl (List.mem_cons_self ..)
  · rintro (h | ⟨r, u, e, mu', q⟩)
    · rcases List.mem_cons.mp h with rfl | h
      · exact .inr ⟨S.length, o, get_snoc_new, m, by rw [← s.len]; exact get_snoc_new⟩
      · exact .inl h
    · exact .inr ⟨r, u, get_snoc_old e, mu', get_snoc_old q⟩
theorem keep_reveal {o : MO} (s : StoOk K Ts S mu (D :: hs) H) (m : o.mut = true) : Keep K (live S mu (D :: hs)) (live (S ++ [o]) (mu ++ [D]) hs) H H :=
  ⟨fun _ _ h => h, fun a _ h n => ⟨h, fun z => n ((live_reveal s m).mp z)⟩, fun a _ h n => ⟨h, fun z => n ((live_reveal s m).mp z)⟩⟩
theorem StoOk.reveal {o : MO} (s : StoOk K Ts S mu (D :: hs) H) (m : o.mut = true) (nD : D ∉ hs) (hm : MOk K (live (S ++ [o]) (mu ++ [D]) hs) (mu ++ [D]) H D o) : StoOk K Ts (S ++ [o]) (mu ++ [D]) hs H := by
  refine ⟨by simp [s.len], fun r r' u u' b e e' mi mi' q q' => ?_, fun r u b e q => ?_, fun b hb => s.hid b (List.mem_cons_of_mem _ hb), fun b hb r u e mi q => ?_, s.tab⟩
  · rcases get_snoc e with e1 | ⟨e1, _⟩ <;> rcases get_snoc e' with e2 | ⟨e2, _⟩
    · rw [List.getElem?_append_left (by rw [s.len]; exact (List.getElem?_eq_some_iff.mp e1).1)] at q
      rw [List.getElem?_append_left (by rw [s.len]; exact (List.getElem?_eq_some_iff.mp e2).1)] at q'
      exact s.inj r r' u u' b e1 e2 mi mi' q q'
    · rw [List.getElem?_append_left (by rw [s.len]; exact (List.getElem?_eq_some_iff.mp e1).1)] at q
      subst e2
      rw [← s.len, get_snoc_new] at q'
      cases q'
      exact absurd q (s.hidn _ (List.mem_cons_self ..) r u e1 mi)
    · rw [List.getElem?_append_left (by rw [s.len]; exact (List.getElem?_eq_some_iff.mp e2).1)] at q'
      subst e1
      rw [← s.len, get_snoc_new] at q
      cases q
      exact absurd q' (s.hidn _ (List.mem_cons_self ..) r' u' e2 mi')
    · rw [e1, e2]
  · rcases get_snoc e with e1 | ⟨e1, e2⟩
    · rw [List.getElem?_append_left (by rw [s.len]; exact (List.getElem?_eq_some_iff.mp e1).1)] at q
      exact MOk.go (keep_reveal s m) (fun _ _ h => get_snoc_old h) (fun _ _ h => h) (s.ok r u b e1 q)
    · subst e1 e2
      rw [← s.len, get_snoc_new] at q
      cases q
      exact hm
  · rcases get_snoc e with e1 | ⟨e1, e2⟩
    · rw [List.getElem?_append_left (by rw [s.len]; exact (List.getElem?_eq_some_iff.mp e1).1)] at q
      exact s.hidn b (List.mem_cons_of_mem _ hb) r u e1 mi q
    · subst e1
      rw [← s.len, get_snoc_new] at q
      cases q
      exact nD hb
theorem Go.reveal {o : MO} (g : Go S mu hs H S' mu' H') (hD : H D = none) (sl : mu'.length = S'.length) : Go S mu hs H (S' ++ [o]) (mu' ++ [D]) H' where
  pre := fun r a h => get_snoc_old (g.pre r a h)
  tup := g.tup
  frz := g.frz
  tbl := g.tbl
  stay := g.stay
  nlv := fun a h n => by
    rintro (z | ⟨r, u, e, mi, q⟩)
    · exact g.nlv a h n (.inl z)
    · rcases get_snoc e with e1 | ⟨e1, e2⟩
      · rw [List.getElem?_append_left (by rw [sl]; exact (List.getElem?_eq_some_iff.mp e1).1)] at q
        exact g.nlv a h n (.inr ⟨r, u, e1, mi, q⟩)
      · subst e1
        rw [← sl, get_snoc_new] at q
        cases q
        exact h hD
  hid := g.hid
  hadn := g.hadn
end

def pLcR (vs : List Nat) (t : Tg) (it : Mes) (pt : Env0' → Sto → R Bool) (pe : Me) : Me := fun ρ S => (it ρ S).bind fun xs S1 => (nox (lcLoop t pt pe (wipeR ρ vs) xs [] S1)).bind fun ds S2 => .ok (.r S2.length) (S2 ++ [.lst (ds.map .d)])
section
variable {X : Cx} {E : XW}
theorem DenL.xs2 {K : PySem.W.Frag} {lv : Addr → Prop} {mu : List Addr} {H : Hp} {ds : List D} {vs : List V} (h : DenL K lv H ds vs) : DenXs K lv mu H (ds.map .d) vs := DenL.xs h
/-- the loop of a comprehension: what is done with the list at the end -/
theorem lc_any {vs : List Nat} {t : Tg} {it : Mes} {pt : Env0' → Sto → R Bool} {pe : Me} {g : TG} {σ : L2.St} {H : Hp} {Q : VK} {fin : List D → Sto → R Xv} (hgt : GOk X.K g t) (hsub : ∀ i ∈ t.ix, i ∈ vs)
    (hfin : ∀ (ds : List D) (accV : List V) (S1 : Sto) (mu1 hs : List Addr) (H1 : Hp) (S' : Sto) (mu' : List Addr) (H' : Hp) (D : Addr), H1 D = none → D ∉ hs → Go S1 mu1 hs H1 S' mu' H' → StoOk X.K E.ts S' mu' (D :: hs) H' → H' D = some (.lst accV) → DenL X.K (live S' mu' (D :: hs)) H' ds accV → ds.length ≤ sizeLine →
      Post X.K E S1 mu1 hs H1 (fun x S' mu' H' => ∀ v, DenX X.K (live S' mu' hs) mu' H' x v → Q v H') (fin ds S') → Q (.ref D) H')
    (h : tD X.K E (fun ρ S => (it ρ S).bind fun xs S1 => (nox (lcLoop t pt pe (wipeR ρ vs) xs [] S1)).bind fin) σ H Q) : tLc (iD X.K E it) g (tDt X.K E.no pt) (tD X.K E.no pe) vs σ H Q := by
  obtain ⟨ρ, S, mu, hs, en, s, h⟩ := h
  refine ⟨ρ, S, mu, hs, en, s, Post.mono (Post.bind h) fun xs S1 mu1 H1 g1 s1 z J ji D hD => ?_⟩
  obtain ⟨_, _, z⟩ := z
  have nD : D ∉ hs := fun q => s1.hid D q hD
  have enw := ((en.go g1).wipe vs)
  generalize hρ : wipeR ρ vs = ρw at z enw
  refine ⟨fun i m H' => m = xs.length - i ∧ i ≤ xs.length ∧ ∃ acc accV S' mu', Go S1 mu1 hs H1 S' mu' H' ∧ StoOk X.K E.ts S' mu' (D :: hs) H' ∧ H' D = some (.lst accV) ∧ DenL X.K (live S' mu' (D :: hs)) H' acc accV ∧ acc.length ≤ i ∧
    lcLoop t pt pe ρw xs [] S1 = lcLoop t pt pe ρw (xs.drop i) acc S', ⟨xs.length, by simp, Nat.zero_le _, [], [], S1, mu1, Go.updFresh Go.refl hD s1.hid _, s1.hide hD _, upd_same, by unfold DenL; rfl, Nat.zero_le _, by simp⟩, ?_⟩
  rintro i m H' ⟨rfl, hi, acc, accV, S', mu', gg, ss, hDv, dl, la, eq⟩
  obtain ⟨jl, ji'⟩ := ji
  obtain ⟨jg, js, jy⟩ := ji' E.ts [D] S' mu' H' (fun d hd => by rw [List.mem_singleton.mp hd]; exact hD) gg.w ss
  by_cases hlt : i < xs.length
  · refine .inr ⟨jg i hlt, _, fun H2 w => ⟨xs.length - (i + 1), by omega, w⟩, fun v H2 y => ?_⟩
    obtain ⟨gy, sy, x, ex, dx⟩ := jy i v H2 hlt y
    rw [drop_get ex] at eq
    have eq0 := eq
    rw [eq] at z
    unfold lcLoop at z
    cases ea : asgT t x ρw with
    | none => rw [ea] at z; exact z.elim
    | some ρ1 =>
      rw [ea] at z
      dsimp only at z
      have kx : Keep X.K (live S1 mu1 hs) (live S' mu' ([D] ++ hs)) H1 H2 := by
        have k1 := gg.keepX (K := X.K) (ex := [D]) (fun d hd => by rw [List.mem_singleton.mp hd]; exact hD)
        have k2 := gy.keep (K := X.K)
        exact ⟨fun a ws q => k2.tup a ws (k1.tup a ws q), fun a ws q n => let ⟨q1, n1⟩ := k1.lst a ws q n; k2.lst a ws q1 n1, fun a ws q n => let ⟨q1, n1⟩ := k1.rd a ws q n; k2.rd a ws q1 n1⟩
      refine hgt x ρw ρ1 S' mu' ([D] ++ hs) H2 (wipe σ vs) v _ (kx.env (fun r a q => gg.pre r a q) enw) dx ea fun σ2 en2 off => ⟨wipe_off off hsub, ?_⟩
      refine ⟨ρ1, S', mu', [D] ++ hs, en2, sy, ?_⟩
      cases ep : pt ρ1 S' with
      | bad => rw [ep] at z; exact z.elim
      | exc c as S2 => rw [ep] at z; exact z.elim
      | ok b S2 =>
        rw [ep] at z
        simp only [R.bind] at z
        intro mu3 H3 g3 s3
        have hD3 := g3.hid D (List.mem_cons_self ..) _ (gy.hid D (List.mem_cons_self ..) _ hDv (fun _ => nofun)) (fun _ => nofun)
        cases b with
        | false =>
          simp only [Bool.false_eq_true, if_false] at z ⊢
          refine ⟨True.intro, hlt, acc, accV, S2, mu3, ?_, s3, hD3, DenL.keep g3.keep _ _ (DenL.keep gy.keep _ _ dl), by omega, ?_⟩
          · exact (gg.trans (gy.show sy nD)).trans (g3.show s3 nD)
          · rw [eq0]
            conv => lhs; unfold lcLoop
            rw [ea]; dsimp only; rw [ep]; simp only [R.bind, Bool.false_eq_true, if_false]
        | true =>
          simp only [if_true] at z ⊢
          refine ⟨ρ1, S2, mu3, [D] ++ hs, en2.go g3, s3, ?_⟩
          cases ee : pe ρ1 S2 with
          | bad => rw [ee] at z; exact z.elim
          | exc c as S4 => rw [ee] at z; exact z.elim
          | ok yv S4 =>
            rw [ee] at z
            intro mu4 H4 g4 s4 w hw
            cases yv with
            | r n => exact z.elim
            | d d =>
              have hD4 := g4.hid D (List.mem_cons_self ..) _ hD3 (fun _ => nofun)
              have el := dl.length
              refine ⟨accV, hD4, by omega, True.intro, hlt, acc ++ [d], accV ++ [w], S4, mu4, ?_, s4.updHid _ hD4, upd_same, ?_, by simp; omega, ?_⟩
              · exact Go.updFresh (((gg.trans (gy.show sy nD)).trans (g3.show s3 nD)).trans (g4.show s4 nD)) hD s1.hid _
              · refine DenL.append (DenL.keep (keep_updHid _ hD4) _ _ (DenL.keep g4.keep _ _ (DenL.keep g3.keep _ _ (DenL.keep gy.keep _ _ dl)))) ?_
                unfold DenL
                exact ⟨w, [], rfl, DenD.keep (keep_updHid _ hD4) _ _ hw, by unfold DenL; rfl⟩
              · rw [eq0]
                conv => lhs; unfold lcLoop
                rw [ea]; dsimp only; rw [ep]; simp only [R.bind, if_true, ee]
  · have ei : i = xs.length := by omega
    subst ei
    refine .inl ⟨js, ?_⟩
    rw [List.drop_length] at eq
    rw [eq] at z
    unfold lcLoop at z
    exact hfin acc accV S1 mu1 hs H1 S' mu' H' D hD nD gg ss hDv dl (by omega) z
theorem lcR_red {vs : List Nat} {t : Tg} {it : Mes} {pt : Env0' → Sto → R Bool} {pe : Me} {g : TG} {σ : L2.St} {H : Hp} {Q : VK} (hgt : GOk X.K g t) (hsub : ∀ i ∈ t.ix, i ∈ vs)
    (h : tD X.K E (pLcR vs t it pt pe) σ H Q) : tLc (iD X.K E it) g (tDt X.K E.no pt) (tD X.K E.no pe) vs σ H Q :=
  lc_any hgt hsub (fun ds accV S1 mu1 hs H1 S' mu' H' D hD nD gg ss hDv dl hl z => by
    have k := keep_reveal (o := .lst (ds.map .d)) ss rfl
    refine z _ H' (Go.reveal gg hD ss.len) (ss.reveal rfl nD ⟨by simpa using hl, accV, hDv, DenL.xs (DenL.keep k _ _ dl)⟩) _ ⟨D, rfl, ?_⟩
    rw [← ss.len]; exact get_snoc_new) h

def frzX (x : Xv) (S : Sto) : R Xv := match x with
  | .r n => (match S[n]? with
    | some (.lst xs) => (match allD xs with
      | some ds => .ok (.d (.list ds)) (S.set n .dead)
      | none => .bad)
    | _ => .bad)
  | _ => .bad
def pFrz (p : Me) : Me := fun ρ S => (p ρ S).bind frzX
theorem frz_den {K : PySem.W.Frag} {S S1 : Sto} {mu hs : List Addr} {H : Hp} {x y : Xv} {v : V} (s : StoOk K Ts S mu hs H) (h : DenX K (live S mu hs) mu H x v) (e : frzX x S = .ok y S1) :
    Go S mu hs H S1 mu H ∧ StoOk K Ts S1 mu hs H ∧ DenX K (live S1 mu hs) mu H y v := by
  cases x with
  | d d => cases e
  | r n =>
    obtain ⟨a, rfl, ha⟩ := h
    simp only [frzX] at e
    cases en : S[n]? with
    | none => rw [en] at e; cases e
    | some o =>
      rw [en] at e
      cases o with
      | lst xs =>
        dsimp only at e
        cases ed : allD xs with
        | none => rw [ed] at e; cases e
        | some ds =>
          rw [ed] at e
          cases e
          obtain ⟨l, vs, ea, dv⟩ := s.ok n _ a en ha
          have g := Go.kill (mu := mu) (hs := hs) (H := H) en rfl
          have s' := s.kill en rfl
          refine ⟨g, s', ?_⟩
          unfold DenX DenD
          exact ⟨a, vs, rfl, ea, dead_not s en rfl ha, by rw [allD_length ed]; exact l, DenL.keep g.keep _ _ (DenXs.allD dv ed)⟩
      | _ => cases e
theorem e_frz {e : Expr} {p : Me} (h : PE X e (tD X.K E p)) : PE X e (tD X.K E (pFrz p)) := PE.imp h fun σ H Q h => by
  obtain ⟨ρ, S, mu, hs, en, s, h⟩ := h
  refine ⟨ρ, S, mu, hs, en, s, Post.mono (Post.bind h) fun x S1 mu1 H1 g1 s1 z v hv => ?_⟩
  obtain ⟨_, _, z⟩ := z
  cases ef : frzX x S1 with
  | bad => rw [ef] at z; exact z.elim
  | exc c as S2 => rw [ef] at z; cases x <;> simp only [frzX] at ef <;> (repeat' split at ef) <;> cases ef
  | ok y S2 =>
    rw [ef] at z
    obtain ⟨g2, s2, d2⟩ := frz_den s1 hv ef
    exact z mu1 H1 g2 s2 v d2
/-- a name's list becomes data -/
def pFrzV (i : Nat) (q : Ms) : Ms := fun ρ S => match ρ[i]? with
  | some (some x) => (frzX x S).bind fun y S1 => q (ρ.set i (some y)) S1
  | _ => .bad
theorem s_frz {i : Nat} {st : List Stmt} {q : Ms} (h : PSs X st (tDS X.K E q)) : PSs X st (tDS X.K E (pFrzV i q)) := PSs.imp h fun D σ H h => by
  obtain ⟨ρ, S, mu, hs, en, s, h⟩ := h
  unfold pFrzV at h
  split at h
  · rename_i x ex
    obtain ⟨v, ev, hv⟩ := en.2 i x ex
    cases ef : frzX x S with
    | bad => rw [ef] at h; exact h.elim
    | exc c as S2 => cases x <;> simp only [frzX] at ef <;> (repeat' split at ef) <;> cases ef
    | ok y S2 =>
      rw [ef] at h
      obtain ⟨g2, s2, d2⟩ := frz_den s hv ef
      refine ⟨ρ.set i (some y), S2, mu, hs, ?_, s2, Post.go g2 h⟩
      have e2 := (en.go g2).set (i := i) d2
      have : σ.set i (some v) = σ := by
        obtain ⟨hl, e3⟩ := List.getElem?_eq_some_iff.mp ev
        rw [← e3]; exact List.set_getElem_self hl
      rw [this] at e2
      exact e2
  · exact h.elim

theorem Post.hide {α : Type} {K : PySem.W.Frag} {E : XW} {S : Sto} {mu hs : List Addr} {H : Hp} {k k' : α → Sto → List Addr → Hp → Prop} {r : R α} {p : Addr} {o : HO} (s : StoOk K E.ts S mu hs H) (hp : H p = none) (no : ∀ ps, o ≠ .tbl ps) (h : Post K E S mu hs H k r)
    (hk : ∀ x S' mu' H', r = .ok x S' → Go S mu hs H S' mu' H' → StoOk K E.ts S' mu' (p :: hs) H' → H' p = some o → (Post K E S mu hs H k (.ok x S')) → k' x S' mu' H') : Post K E S mu (p :: hs) (upd H p o) k' r := by
  have nD : p ∉ hs := fun q => s.hid p q hp
  have gf : ∀ {S' mu' H'}, Go S mu (p :: hs) (upd H p o) S' mu' H' → StoOk K E.ts S' mu' (p :: hs) H' → Go S mu hs H S' mu' H' := fun g ss => (Go.laid s hp o).trans (g.show ss nD)
  cases r with
  | ok x S' => exact fun mu' H' g ss => hk x S' mu' H' rfl (gf g ss) ss (g.hid p (List.mem_cons_self ..) _ upd_same no) h
  | exc c as S' => exact fun mu' H' g ss => h mu' H' (gf g ss) ss.show
  | bad => exact h
def pVals : List Me → Mes
  | [] => pNil
  | p :: ps => pCons p (pVals ps)
def kvAll : List Key → List Xv → List (Key × Xv) → List (Key × Xv)
  | k :: ks, x :: xs, acc => kvAll ks xs (kvPut acc k x)
  | _, _, acc => acc
def pDct (ks : List Key) (ps : List Me) : Me := fun ρ S => (pVals ps ρ S).bind fun xs S1 => .ok (.r S1.length) (S1 ++ [.dct (kvAll ks xs [])])
theorem pairs_red {K : PySem.W.Frag} {E : XW} : ∀ {ks : List Key} {ps : List Me}, ks.length = ps.length → ∀ {ρ : Env0'} {S : Sto} {mu hs : List Addr} {H : Hp} {σ : L2.St} {Q : List (V × V) → Hp → Prop}, EnvOk K (live S mu hs) mu H ρ σ → StoOk K E.ts S mu hs H →
    Post K E S mu hs H (fun xs S' mu' H' => ∀ vs, xs.length = ks.length → DenXs K (live S' mu' hs) mu' H' xs vs → Q ((ks.zip vs).map fun kv => (kV kv.1, kv.2)) H') (pVals ps ρ S) → tPairs ((ks.zip ps).map fun kp => (tC (kV kp.1), tD K E kp.2)) σ H Q
  | [], [], _, ρ, S, mu, hs, H, σ, Q, en, s, h => h.here s [] rfl .nil
  | k :: ks, p :: ps, hl, ρ, S, mu, hs, H, σ, Q, en, s, h => by
    refine ⟨ρ, S, mu, hs, en, s, Post.mono (Post.bind h) fun x S1 mu1 H1 g1 s1 z v hv => ?_⟩
    obtain ⟨_, _, z⟩ := z
    refine pairs_red (ks := ks) (ps := ps) (by simpa using hl) (en.go g1) s1 (Post.mono (Post.bind z) fun xs S2 mu2 H2 g2 s2 z2 vs hxl hvs => ?_)
    obtain ⟨_, _, z2⟩ := z2
    exact z2.here s2 (v :: vs) (by simp [hxl]) (.cons (hv.go g2) hvs)
  | [], _ :: _, hl, _, _, _, _, _, _, _, _, _, _ => by cases hl
  | _ :: _, [], hl, _, _, _, _, _, _, _, _, _, _ => by cases hl
theorem kvAll_den {K : PySem.W.Frag} {lv : Addr → Prop} {mu : List Addr} {H : Hp} : ∀ {ks : List Key} {xs : List Xv} {vs : List V} {acc : List (Key × Xv)} {ws : List (Key × V)}, ks.length = xs.length → DenXs K lv mu H xs vs → DenKv K lv mu H acc ws →
    DenKv K lv mu H (kvAll ks xs acc) (mergeK ws (ks.zip vs))
  | [], [], _, acc, ws, _, .nil, h => h
  | k :: ks, x :: xs, v :: vs, acc, ws, hl, .cons q t, h => kvAll_den (acc := kvPut acc k x) (ws := putK ws k v) (by simpa using hl) t (kv_put q h)
theorem pVals_len : ∀ {ps : List Me} {ρ : Env0'} {S : Sto} {xs : List Xv} {S' : Sto}, pVals ps ρ S = .ok xs S' → xs.length = ps.length
  | [], ρ, S, xs, S', h => by cases h; rfl
  | p :: ps, ρ, S, xs, S', h => by
    obtain ⟨x, S1, e1, h⟩ := R.bind_ok (show (p ρ S).bind (fun x S1 => (pVals ps ρ S1).bind fun xs S2 => .ok (x :: xs) S2) = .ok xs S' from h)
    obtain ⟨ys, S2, e2, h⟩ := R.bind_ok h
    cases h
    simp [pVals_len e2]
theorem e_dct {keys : List (Option Expr)} {values : List Expr} {pos : Pos} {ks : List Key} {ps : List Me} (hlen : ks.length = ps.length) (h : PPs X pos keys values ((ks.zip ps).map fun kp => (tC (kV kp.1), tD X.K E kp.2))) (hall : keys.all (·.isSome) = true) (hl : keys.length = values.length)
    (h0 : keys ≠ []) (h15 : keys.length ≤ 15) (hk : ks.length ≤ 15) : PE X (.Dict keys values pos) (tD X.K E (pDct ks ps)) := PE.imp (pe_disp h hall hl h0 h15) fun σ H Q h => by
  obtain ⟨ρ, S, mu, hs, en, s, h⟩ := h
  intro p hp
  have g0 := Go.laid (K := X.K) s hp (.dK [])
  have nD : p ∉ hs := fun q => s.hid p q hp
  have k0 : Keep X.K (live S mu hs) (live S mu (p :: hs)) H (upd H p (.dK [])) := g0.keepX (ex := [p]) (fun d hd => by rw [List.mem_singleton.mp hd]; exact hp)
  refine pairs_red hlen (k0.env (fun r a q => q) en) (s.hide hp (.dK [])) ?_
  refine Post.hide (k := fun xs S' mu' H' => xs.length = ks.length → Post X.K E S mu hs H (fun x S' mu' H' => ∀ v, DenX X.K (live S' mu' hs) mu' H' x v → Q v H') (.ok (.r S'.length) (S' ++ [.dct (kvAll ks xs [])]))) s hp (fun _ => nofun) ?_ fun xs S' mu' H' e g ss hDv z vs hxl hvs => ?_
  · unfold pDct at h
    cases ev : pVals ps ρ S with
    | bad => rw [ev] at h; exact h
    | exc c as S' => rw [ev] at h; exact h
    | ok xs S' => rw [ev] at h; exact fun mu' H' g ss hxl => h
  · refine ⟨hDv, ks.zip vs, rfl, by simp [List.length_zip]; omega, ?_⟩
    have z := z mu' H' g ss.show hxl
    have ss2 := ss.updHidC (.dK (mergeK [] (ks.zip vs))) hDv True.intro
    have k1 : Keep X.K (live S' mu' (p :: hs)) (live S' mu' (p :: hs)) H' (upd H' p (.dK (mergeK [] (ks.zip vs)))) := keep_updHidC _ hDv True.intro
    have k2 := keep_reveal (o := .dct (kvAll ks xs [])) ss2 rfl
    have dvs := Paired.mapP hvs fun a b q => k2.denX (mu' := mu' ++ [p]) (fun _ _ h => get_snoc_old h) (k1.denX (fun _ _ h => h) q)
    refine z _ _ (Go.reveal (Go.updFresh g hp s.hid _) hp ss.len) (ss2.reveal rfl nD ⟨_, upd_same, kvAll_den hxl.symm dvs .nil⟩) _ ⟨p, rfl, ?_⟩
    rw [← ss.len]; exact get_snoc_new
end
end PB

namespace PB
open PySem PySem.Spec PyProof.Rows L2
variable {Ts : List Addr}

def fRepr : List Xv → Sto → R Xv
  | [x], S => (match datOf S x with
    | some d => if d.showable && !d.hasDict && decide (d.depth ≤ 64) && decide (d.shown.length ≤ sizeLine) then .ok (.d (.str d.shown)) S else .bad
    | none => .bad)
  | _, _ => .bad
def rReprD (K : PySem.W.Frag) : List V → Hp → VK → Prop := fun xs H Q => ∃ v d, xs = [v] ∧ Dp K H v d ∧ d.showable = true ∧ d.hasDict = false ∧ d.depth ≤ 64 ∧ d.shown.length ≤ sizeLine ∧ Q (.str d.shown) H
section
variable {X : Cx} {E : XW}
theorem call_reprD (hG : X.A.guards = some []) (hu : X.A.units + 100 < cLine) : CallR X (.builtin "repr") (rReprD X.K) := by
  intro pins s σ H xs us Q I r h
  obtain ⟨v, d, rfl, hd, h1, h2, h3, h4, q⟩ := h
  obtain ⟨u, rfl, ru⟩ := r.one
  obtain ⟨as, rd⟩ := Dp.reads I d v u hd ru
  have fin : ∀ (tk : Tok), EP X pins σ Q (.str d.shown tk) { s with toks := s.toks + 1 } := fun tk => ⟨.str d.shown, H, I.tok _, ⟨_, rfl⟩, q⟩
  have big : ∀ a, u = .ref a → wpAny (model X.prog X.w) X.A (call (.builtin "repr") [u]) (EP X pins σ Q) X.xe s := fun a e => by
    subst e
    exact repr_of_reads' (h₀ := s.heap) rd h1 (PyData.noDict_hsm h2) hG (by omega) (fun _ _ e => e) (fun h' u tk hk => ⟨.str d.shown, H, I.kept (t' := tk) hk, ⟨_, rfl⟩, q⟩) h4
  cases rd with
  | none => exact PySem.P.repr_of_none (by simpa [PyData.shown] using fin _)
  | bool b => exact PySem.P.repr_of_bool (by simpa [PyData.shown] using fin _)
  | int i t => exact PySem.P.repr_of_int (by simpa [PyData.showable] using h1) (by simpa [PyData.shown] using fin _)
  | str x t => exact PySem.P.repr_of_str (by simpa [PyData.shown] using fin _) (by simpa [PyData.shown] using h4)
  | list _ _ _ _ => exact big _ rfl
  | tuple _ _ _ _ => exact big _ rfl
  | dict _ _ _ _ => exact big _ rfl
theorem c_repr (hG : X.A.guards = some []) (hu : X.A.units + 100 < cLine) : CallR X (.builtin "repr") (rB X.K E fRepr) := CallR.imp (call_reprD hG hu) fun vs H Q h => by
  obtain ⟨xs, S, mu, hs, s, hx, h⟩ := h
  unfold fRepr at h
  split at h
  · rename_i x
    obtain ⟨v, rfl, q⟩ := pair1 hx
    cases ed : datOf S x with
    | none => rw [ed] at h; exact h.elim
    | some d =>
      rw [ed] at h
      dsimp only at h
      split at h
      · rename_i hc
        simp only [Bool.and_eq_true, decide_eq_true_eq, Bool.not_eq_true'] at hc
        exact ⟨v, d, rfl, q.dp s ed, hc.1.1.1, hc.1.1.2, hc.1.2, hc.2, h.here s _ (by unfold DenX DenD; rfl)⟩
      · exact h.elim
  · exact h.elim

def isTupD : D → Bool
  | .tuple (_ :: _) => true
  | _ => false
def isOthD : D → Bool
  | .none => false
  | .tuple _ => false
  | _ => true
def sortB (ds : List D) : Bool := (ds.all fun d => ds.all fun d' => PySem.W.alike d d') && (ds.all isTupD || ds.all isOthD) && ds.all fun d => decide (d.depth ≤ 64)
def leD : D → D → Bool := PySem.W.dataLe false fun d => d
def sortD (ds : List D) : List D := ds.mergeSort leD
def fSort : List Xv → Sto → R Xv
  | [x], S => (match listX S x with
    | some ds => if sortB ds then .ok (.d (.list (sortD ds))) S else .bad
    | none => .bad)
  | _, _ => .bad
theorem sortB_alike {ds : List D} (h : sortB ds = true) : PySem.W.AllAlike ds ∧ PySem.W.Sortable ds ∧ ∀ d ∈ ds, d.depth ≤ 64 := by
  simp only [sortB, Bool.and_eq_true, Bool.or_eq_true, List.all_eq_true, decide_eq_true_eq] at h
  refine ⟨fun d hd d' hd' => h.1.1 d hd d' hd', ?_, h.2⟩
  rcases h.1.2 with q | q
  · refine .inl fun d hd => ?_
    have := q d hd
    match d, this with
    | .tuple (x :: r), _ => exact ⟨x, r, rfl⟩
  · refine .inr fun d hd => ?_
    have := q d hd
    refine ⟨fun e => ?_, fun xs e => ?_⟩ <;> subst e <;> cases this
abbrev RV (v : Value) (p : V × D) : Prop := RelV p.1 v
theorem each_zip {pins : List (Addr × Obj)} {σ : L2.St} {H : Hp} {s : Shared} (I : Inv X pins σ H s) : ∀ {ds : List D} {vs : List V} {us : List Value}, DpAll X.K H vs ds → Vals vs us →
    PySem.W.EachIs RV us (vs.zip ds) ∧ PySem.W.EachIs (fun u (p : V × D) => ∃ as, Reads s.heap u p.2 as) us (vs.zip ds)
  | [], _, _, .nil, .nil => ⟨.nil, .nil⟩
  | d :: ds, _, _, .cons h t, .cons r rs => by
    obtain ⟨e1, e2⟩ := each_zip I t rs
    exact ⟨.cons r e1, .cons (Dp.reads I d _ _ h r) e2⟩
theorem each_vals : ∀ {us : List Value} {ps : List (V × D)}, PySem.W.EachIs RV us ps → Vals (ps.map (·.1)) us
  | _, _, .nil => .nil
  | _, _, .cons r t => .cons r (each_vals t)
def rSortD (K : PySem.W.Frag) : List V → Hp → VK → Prop := fun xs H Q => ∃ (a : Addr) (vs : List V) (ds : List D), xs = [.ref a] ∧ SqL K H a vs ∧ DpAll K H vs ds ∧ vs.length = ds.length ∧ sortB ds = true ∧ ds.length ≤ sizeLine ∧
  ∀ p, H p = none → Q (.ref p) (upd H p (.lst (((vs.zip ds).mergeSort (PySem.W.dataLe false fun q => q.2)).map (·.1))))
theorem zip_snd {α β : Type} : ∀ {xs : List α} {ys : List β}, xs.length = ys.length → (xs.zip ys).map (·.2) = ys
  | [], [], _ => rfl
  | x :: xs, y :: ys, h => by simp [zip_snd (xs := xs) (ys := ys) (by simpa using h)]
theorem call_sortD (hu : X.A.units + 100 < cLine) : CallR X (.builtin "sorted") (rSortD X.K) := by
  intro pins s σ H xs us Q I r h
  obtain ⟨a, vs, ds, rfl, hl, hd, el, hb, hz, q⟩ := h
  obtain ⟨u, rfl, ru⟩ := r.one
  cases ru
  obtain ⟨its, rv, pl, hlen⟩ := I.list hl
  obtain ⟨e1, e2⟩ := each_zip I hd rv
  obtain ⟨b1, b2, b3⟩ := sortB_alike hb
  have em : (vs.zip ds).map (fun q => q.2) = ds := zip_snd el
  refine PySem.W.sorted_data (enc := fun (q : V × D) => q.2) pl.isList e1 e2 (by rw [em]; exact b1) (by rw [em]; exact b2) (by rw [List.length_zip]; omega) (fun b hb => ?_) fun out ho hout => ?_
  · have : b.2 ∈ ds := by rw [← em]; exact List.mem_map.mpr ⟨b, hb, rfl⟩
    have := b3 _ this
    omega
  · obtain ⟨ep, he'⟩ := PyProof.Rows.sortedAll_at s.heap its (List.toArray out)
    have hv := each_vals hout
    refine ⟨.ref (s.heap.objs.size + 1), upd H (s.heap.objs.size + 1) (.lst (((vs.zip ds).mergeSort (PySem.W.dataLe false fun q => q.2)).map (·.1))), I.laid (t' := s.toks) (fun _ _ => PyProof.Rows.sortedAll_old) (Nat.le_succ _) ⟨?_, out, ep, hv, he'⟩, rfl, q _ (I.hok.fresh (Nat.le_succ _))⟩
    rw [List.length_map, List.length_mergeSort, List.length_zip]; omega
theorem den_zip {K : PySem.W.Frag} {lv : Addr → Prop} {H : Hp} : ∀ {ds : List D} {vs : List V}, DenL K lv H ds vs → ∀ p ∈ vs.zip ds, DenD K lv H p.2 p.1
  | [], _, h, p, hp => by unfold DenL at h; subst h; cases hp
  | d :: ds, vs, h, p, hp => by
    unfold DenL at h
    obtain ⟨v, r, rfl, hv, hr⟩ := h
    rw [List.zip_cons_cons] at hp
    rcases List.mem_cons.mp hp with rfl | hp
    · exact hv
    · exact den_zip hr p hp
theorem zip_den {K : PySem.W.Frag} {lv : Addr → Prop} {H : Hp} : ∀ {ps : List (V × D)}, (∀ p ∈ ps, DenD K lv H p.2 p.1) → DenL K lv H (ps.map (·.2)) (ps.map (·.1))
  | [], _ => by simp [DenL]
  | p :: ps, h => by
    rw [List.map_cons, List.map_cons]
    unfold DenL
    exact ⟨_, _, rfl, h p (List.mem_cons_self ..), zip_den fun q hq => h q (List.mem_cons_of_mem _ hq)⟩
theorem zip_sort {vs : List V} {ds : List D} (el : vs.length = ds.length) : ((vs.zip ds).mergeSort (PySem.W.dataLe false fun q => q.2)).map (·.2) = sortD ds := by
  unfold sortD
  rw [List.map_mergeSort (r := PySem.W.dataLe false fun q => q.2) (s := leD) (f := fun (q : V × D) => q.2) (fun a _ b _ => rfl), zip_snd el]
theorem c_sort (hu : X.A.units + 100 < cLine) : CallR X (.builtin "sorted") (rB X.K E fSort) := CallR.imp (call_sortD hu) fun vs H Q h => by
  obtain ⟨xs, S, mu, hs, s, hx, h⟩ := h
  unfold fSort at h
  split at h
  · rename_i x
    obtain ⟨v, rfl, q⟩ := pair1 hx
    cases ed : listX S x with
    | none => rw [ed] at h; exact h.elim
    | some ds =>
      rw [ed] at h
      dsimp only at h
      split at h
      · rename_i hc
        obtain ⟨p, vs, rfl, hq, hl, hd⟩ := listX_of s q ed
        have el := hd.length
        refine ⟨p, vs, ds, rfl, hq, DenL.dp _ _ hd, el.symm, hc, hl, fun a ha => ?_⟩
        refine post_new s h ha ?_
        have g := Go.laid (K := X.K) s ha (.lst (((vs.zip ds).mergeSort (PySem.W.dataLe false fun q => q.2)).map (·.1)))
        unfold DenD
        refine ⟨a, _, rfl, upd_same, s.fresh ha, by unfold sortD; rw [List.length_mergeSort]; exact hl, ?_⟩
        rw [← zip_sort el.symm]
        refine DenL.keep g.keep _ _ (zip_den fun r hr => den_zip hd r ?_)
        exact List.mem_mergeSort.mp hr
      · exact h.elim
  · exact h.elim
end
end PB

namespace PB
open PySem
theorem typeCall_zipN (us : List Value) : checkTypeCall "zip" ⟨us, []⟩ = pure () := by kernel_rfl
theorem newCall_zip1 (a : Value) : checkBuiltinCall "zip.__new__" ⟨[.type "zip", a], []⟩ = pure () := by kernel_rfl
theorem newCall_zip4 (a b c d : Value) : checkBuiltinCall "zip.__new__" ⟨[.type "zip", a, b, c, d], []⟩ = pure () := by kernel_rfl
theorem newCall_zip5 (a b c d e : Value) : checkBuiltinCall "zip.__new__" ⟨[.type "zip", a, b, c, d, e], []⟩ = pure () := by kernel_rfl
theorem newCall_zip3 (a b c : Value) : checkBuiltinCall "zip.__new__" ⟨[.type "zip", a, b, c], []⟩ = pure () := by kernel_rfl
theorem object_init5 (z a b c d : Value) : argsOk "object.__init__" ⟨[z, a, b, c, d], []⟩ := by
  unfold argsOk; rw [signature?_of (id := "object.__init__") (n := ['_', '_', 't', 'i', 'n', 'i', '_', '_']) (o := ['t', 'c', 'e', 'j', 'b', 'o']) (by kernel_rfl) F.owner_object]; kernel_rfl
theorem object_init6 (z a b c d e : Value) : argsOk "object.__init__" ⟨[z, a, b, c, d, e], []⟩ := by
  unfold argsOk; rw [signature?_of (id := "object.__init__") (n := ['_', '_', 't', 'i', 'n', 'i', '_', '_']) (o := ['t', 'c', 'e', 'j', 'b', 'o']) (by kernel_rfl) F.owner_object]; kernel_rfl
theorem object_init4 (z a b c : Value) : argsOk "object.__init__" ⟨[z, a, b, c], []⟩ := by
  unfold argsOk; rw [signature?_of (id := "object.__init__") (n := ['_', '_', 't', 'i', 'n', 'i', '_', '_']) (o := ['t', 'c', 'e', 'j', 'b', 'o']) (by kernel_rfl) F.owner_object]; kernel_rfl
end PB

namespace PB
open PySem
/-- where a walked thing stands: is it a tuple, its iterator, itself -/
structure Src where
  t : Bool
  it : Addr
  l : Addr
def Src.At (x : Src) (h : Heap) (i : Nat) : Prop := if x.t then h.IsTupleIter x.it x.l i else h.IsListIter x.it x.l i
def Src.On (x : Src) (h : Heap) (items : Array Value) : Prop := if x.t then h.IsTuple x.l items else h.IsList x.l items
/-- the objects in cs may have changed -/
def ButL (cs : List Addr) (h h' : Heap) : Prop := h'.objs.size = h.objs.size ∧ ∀ b, b ∉ cs → h'.get? b = h.get? b
def ExtL (cs : List Addr) (h h' : Heap) : Prop := ∀ b o, b ∉ cs → h.get? b = some o → h'.get? b = some o
theorem ButL.ext {cs : List Addr} {h h' : Heap} (x : ButL cs h h') : ExtL cs h h' := fun b o n e => (x.2 b n).trans e
theorem Src.At.ext {x : Src} {cs : List Addr} {h h' : Heap} {i : Nat} (a : x.At h i) (e : ExtL cs h h') (n : x.it ∉ cs) : x.At h' i := by
  unfold Src.At at *
  split <;> rename_i q
  · rw [if_pos q] at a; obtain ⟨o, ho, r⟩ := a; exact ⟨o, e _ _ n ho, r⟩
  · rw [if_neg q] at a; obtain ⟨o, ho, r⟩ := a; exact ⟨o, e _ _ n ho, r⟩
theorem Src.On.ext {x : Src} {cs : List Addr} {h h' : Heap} {items : Array Value} (a : x.On h items) (e : ExtL cs h h') (n : x.l ∉ cs) : x.On h' items := by
  unfold Src.On at *
  split <;> rename_i q
  · rw [if_pos q] at a; obtain ⟨o, ho, r⟩ := a; exact ⟨o, e _ _ n ho, r⟩
  · rw [if_neg q] at a; obtain ⟨o, ho, r⟩ := a; exact ⟨o, e _ _ n ho, r⟩
section
variable {prog : Program} {w : World} {A : Around} {E : Value → Shared → Prop} {s : Shared}
theorem nextOf_item {x : Src} {i : Nat} {items : Array Value} {v : Value} {Q : Value → Shared → Prop} (ha : x.At s.heap i) (ho : x.On s.heap items) (hv : items[i]? = some v)
    (hQ : ∀ h', x.At h' (i + 1) → ButL [x.it] s.heap h' → Q v { s with heap := h' }) : wpAny (model prog w) A (Builtin.SmallTypes.nextOf (.ref x.it)) Q E s := by
  have cv : ∀ {h' : Heap}, Heap.SameBut x.it s.heap h' → ButL [x.it] s.heap h' := fun q => ⟨q.1, fun b n => q.2 b fun e => n (by simp [e])⟩
  unfold Src.At at ha hQ
  unfold Src.On at ho
  split at ha <;> rename_i q
  · simp only [q, if_true] at ho hQ; exact RZ.nextOf_tuple_item ha ho hv fun h' a b => hQ h' a (cv b)
  · rw [if_neg q] at ho; simp only [q] at hQ; exact wpAny_nextOf_list_item ha ho hv fun h' a b => hQ h' a (cv b)
def IsStop (h : Heap) (e : Addr) : Prop := ∃ o, h.get? e = some o ∧ o.cls = .type "StopIteration"
theorem nextOf_end {x : Src} {i : Nat} {items : Array Value} {Q : Value → Shared → Prop} (hh : A.handled = none) (ha : x.At s.heap i) (ho : x.On s.heap items) (hv : items[i]? = none)
    (hE : ∀ h' e, ExtL [x.it] s.heap h' → IsStop h' e → E (.ref e) { s with heap := h' }) : wpAny (model prog w) A (Builtin.SmallTypes.nextOf (.ref x.it)) Q E s := by
  have cv : ∀ {h' : Heap}, Heap.ExtBut x.it s.heap h' → ExtL [x.it] s.heap h' := fun q b o n e => q b o (fun z => n (by simp [z])) e
  unfold Src.At at ha
  unfold Src.On at ho
  split at ha <;> rename_i q
  · rw [if_pos q] at ho; exact RZ.nextOf_tuple_end hh ha ho hv fun h' e a b => hE h' e (cv a) b
  · rw [if_neg q] at ho; exact wpAny_nextOf_list_end hh ha ho hv fun h' e a b => hE h' e (cv a) b
end
/-- the iterators are apart, and none is a thing walked -/
structure Aprt (xs : List Src) : Prop where
  nd : (xs.map (·.it)).Nodup
  nl : ∀ x ∈ xs, ∀ y ∈ xs, x.l ≠ y.it
theorem Aprt.tail {x : Src} {xs : List Src} (a : Aprt (x :: xs)) : Aprt xs := ⟨(List.nodup_cons.mp a.nd).2, fun y hy z hz => a.nl y (List.mem_cons_of_mem _ hy) z (List.mem_cons_of_mem _ hz)⟩
/-- each has an item at i -/
abbrev Has (h : Heap) (i : Nat) : List Src → List Value → Prop := Paired fun x v => ∃ items, x.On h items ∧ items[i]? = some v
theorem Has.ext {cs : List Addr} {h h' : Heap} {i : Nat} (e : ExtL cs h h') : ∀ {xs : List Src} {vs : List Value}, Has h i xs vs → (∀ x ∈ xs, x.l ∉ cs) → Has h' i xs vs
  | _, _, .nil, _ => .nil
  | _, _, .cons ⟨its, q, r⟩ t, n => .cons ⟨its, q.ext e (n _ (List.mem_cons_self ..)), r⟩ (Has.ext e t fun x hx => n x (List.mem_cons_of_mem _ hx))
section
variable {prog : Program} {w : World} {A : Around} {E : Value → Shared → Prop} {β : Type}
/-- all are drawn from, one after another; cs: what else the loop's body changes at each -/
theorem draw_all {f : Value → β → Sem (ForInStep β)} {step : β → Value → β} {Q : β → Shared → Prop}
    (hf : ∀ (it : Addr) (b : β) (Q : ForInStep β → Shared → Prop) (s : Shared), wpAny (model prog w) A (Builtin.SmallTypes.nextOf (.ref it)) (fun x s' => Q (.yield (step b x)) s') E s → wpAny (model prog w) A (f (.ref it) b) Q E s) (i : Nat) :
    ∀ (xs : List Src) (vs : List Value) (s : Shared) (b : β), Aprt xs → (∀ x ∈ xs, x.At s.heap i) → Has s.heap i xs vs →
      (∀ h', (∀ x ∈ xs, x.At h' (i + 1)) → ButL (xs.map (·.it)) s.heap h' → Q (vs.foldl step b) { s with heap := h' }) → wpAny (model prog w) A (forIn (xs.map fun x => Value.ref x.it) b f) Q E s
  | [], _, s, b, ap, ha, .nil, hQ => by
    rw [List.map_nil, List.forIn_nil]
    exact wpAny_pure (hQ s.heap (fun _ h => by cases h) ⟨rfl, fun _ _ => rfl⟩)
  | x :: xs, v :: vs, s, b, ap, ha, .cons ⟨its, ho, hv⟩ t, hQ => by
    rw [List.map_cons, List.forIn_cons]
    refine wpAny_bind (hf _ _ _ _ (nextOf_item (ha x (List.mem_cons_self ..)) ho hv fun h1 a1 b1 => ?_))
    have nx : x.it ∉ xs.map (·.it) := (List.nodup_cons.mp ap.nd).1
    refine draw_all hf i xs vs { s with heap := h1 } (step b v) ap.tail (fun y hy => (ha y (List.mem_cons_of_mem _ hy)).ext b1.ext fun z => nx ?_) (Has.ext b1.ext t fun y hy z => ?_) fun h2 a2 b2 => hQ h2 (fun y hy => ?_) ⟨b2.1.trans b1.1, fun c hc => ?_⟩
    · rw [← List.mem_singleton.mp z]; exact List.mem_map.mpr ⟨y, hy, rfl⟩
    · exact ap.nl y (List.mem_cons_of_mem _ hy) x (List.mem_cons_self ..) (List.mem_singleton.mp z)
    · rcases List.mem_cons.mp hy with rfl | hy
      · exact a1.ext b2.ext nx
      · exact a2 y hy
    · rw [List.map_cons, List.mem_cons, not_or] at hc
      exact (b2.2 c hc.2).trans (b1.2 c fun z => hc.1 (List.mem_singleton.mp z))
/-- one has come to its end -/
theorem draw_end {f : Value → β → Sem (ForInStep β)} {step : β → Value → β} {Q : β → Shared → Prop} (hh : A.handled = none)
    (hf : ∀ (it : Addr) (b : β) (Q : ForInStep β → Shared → Prop) (s : Shared), wpAny (model prog w) A (Builtin.SmallTypes.nextOf (.ref it)) (fun x s' => Q (.yield (step b x)) s') E s → wpAny (model prog w) A (f (.ref it) b) Q E s) (i : Nat) :
    ∀ (xs : List Src) (s : Shared) (b : β), Aprt xs → (∀ x ∈ xs, x.At s.heap i) → (∀ x ∈ xs, ∃ items, x.On s.heap items) → (∃ x ∈ xs, ∃ items, x.On s.heap items ∧ items[i]? = none) →
      (∀ h' e, ExtL (xs.map (·.it)) s.heap h' → IsStop h' e → E (.ref e) { s with heap := h' }) → wpAny (model prog w) A (forIn (xs.map fun x => Value.ref x.it) b f) Q E s
  | [], s, b, ap, ha, hon, ⟨x, hx, _⟩, hE => by cases hx
  | x :: xs, s, b, ap, ha, hon, hend, hE => by
    rw [List.map_cons, List.forIn_cons]
    obtain ⟨its, ho⟩ := hon x (List.mem_cons_self ..)
    cases hv : its[i]? with
    | none =>
      refine wpAny_bind (hf _ _ _ _ (nextOf_end hh (ha x (List.mem_cons_self ..)) ho hv fun h1 e e1 st => hE h1 e (fun c o n => e1 c o fun z => n ?_) st))
      rw [List.mem_singleton.mp z]; exact List.mem_map.mpr ⟨x, List.mem_cons_self .., rfl⟩
    | some v =>
      refine wpAny_bind (hf _ _ _ _ (nextOf_item (ha x (List.mem_cons_self ..)) ho hv fun h1 a1 b1 => ?_))
      have nx : x.it ∉ xs.map (·.it) := (List.nodup_cons.mp ap.nd).1
      have nl : ∀ y ∈ x :: xs, y.l ∉ [x.it] := fun y hy z => ap.nl y hy x (List.mem_cons_self ..) (List.mem_singleton.mp z)
      refine draw_end hh hf i xs { s with heap := h1 } (step b v) ap.tail (fun y hy => (ha y (List.mem_cons_of_mem _ hy)).ext b1.ext fun z => nx ?_) (fun y hy => ?_) ?_ fun h2 e e2 st => hE h2 e (fun c o n hc => ?_) st
      · rw [← List.mem_singleton.mp z]; exact List.mem_map.mpr ⟨y, hy, rfl⟩
      · obtain ⟨it2, q⟩ := hon y (List.mem_cons_of_mem _ hy)
        exact ⟨it2, q.ext b1.ext (nl y (List.mem_cons_of_mem _ hy))⟩
      · obtain ⟨y, hy, it2, q, hn⟩ := hend
        rcases List.mem_cons.mp hy with rfl | hy2
        · exfalso
          have : it2 = its := by
            unfold Src.On at q ho
            split at q <;> rename_i c
            · rw [if_pos c] at ho
              obtain ⟨o, e1, _, _, d1⟩ := q
              obtain ⟨o2, e2, _, _, d2⟩ := ho
              rw [e1] at e2; cases e2; rw [d1] at d2; cases d2; rfl
            · rw [if_neg c] at ho
              obtain ⟨o, e1, _, _, d1⟩ := q
              obtain ⟨o2, e2, _, _, d2⟩ := ho
              rw [e1] at e2; cases e2; rw [d1] at d2; cases d2; rfl
          subst this
          rw [hv] at hn; cases hn
        · exact ⟨y, hy2, it2, q.ext b1.ext (nl y hy), hn⟩
      · rw [List.map_cons, List.mem_cons, not_or] at n
        exact e2 c o n.2 (b1.ext c o (fun z => n.1 (List.mem_singleton.mp z)) hc)
end

abbrev IsZ (h : Heap) (z TI TO : Addr) (old : Value) (f : Bool) : Prop := h.get? z = some { cls := .type "zip", dict := none, data := .fields #[old, .bool f, .bool false, .ref TI, .ref TO], slots := #[] }
abbrev IsTp (h : Heap) (T : Addr) (arr : Array Value) : Prop := h.get? T = some { cls := .type "tuple", data := .seq arr }
theorem fold_push : ∀ (vs : List Value) (acc : Array Value), vs.foldl (fun (b : Option Fin × Array Value) x => (none, b.2.push x)) (none, acc) = (none, acc ++ vs.toArray)
  | [], acc => by simp
  | v :: vs, acc => by rw [List.foldl_cons, fold_push vs]; simp
section
variable {prog : Program} {w : World} {A : Around} {E : Value → Shared → Prop} {s : Shared}
theorem zipN_held {z TI TO T : Addr} {f : Bool} {oT : Obj} {i : Nat} {xs : List Src} {vs : List Value} {Q : Value → Shared → Prop} (hne : xs ≠ []) (ap : Aprt xs) (hzn : z ∉ xs.map (·.it)) (hzl : ∀ x ∈ xs, x.l ≠ z) (hz : IsZ s.heap z TI TO (rawInt T) f) (hT : s.heap.get? T = some oT)
    (hTI : IsTp s.heap TI (xs.map fun x => Value.ref x.it).toArray) (ha : ∀ x ∈ xs, x.At s.heap i) (hv : Has s.heap i xs vs) (hsz : vs.length ≤ sizeLine)
    (hQ : ∀ h', IsZ h' z TI TO (rawInt T) true → (∀ x ∈ xs, x.At h' (i + 1)) → IsTp h' s.heap.objs.size vs.toArray → h'.objs.size = s.heap.objs.size + 1 → ExtL (z :: xs.map (·.it)) s.heap h' → Q (.ref s.heap.objs.size) { s with heap := h' }) :
    wpAny (model prog w) A (Builtin.«zip.__next__» ⟨[.ref z], []⟩) (fun fin s' => ∃ v, fin = .done (.ret v) ∧ Q v s') E s := by
  show wpAny _ _ (field (.ref z) 2 >>= _) _ _ _
  refine wpAny_bind (wpAny_field hz rfl (x := .bool false) rfl ?_)
  show wpAny _ _ (field (.ref z) 3 >>= _) _ _ _
  refine wpAny_bind (wpAny_field hz rfl (x := .ref TI) rfl ?_)
  refine wpAny_bind (wpAny_seqItems hTI rfl ?_)
  have ne : ¬ (xs.map fun x => Value.ref x.it).toArray.isEmpty = true := by cases xs with
    | nil => exact absurd rfl hne
    | cons x r => simp
  dsimp only
  rw [if_neg ne]
  show wpAny _ _ (Builtin.SmallTypes.ownedTupleIsFree (.ref z) >>= _) _ _ _
  refine wpAny_bind (PySem.wpAny_tupleHeld_zip hz hT fun h₁ hz₁ hs₁ => ?_)
  simp only [Bool.false_eq_true, if_false]
  refine wpAny_bind ?_
  rw [← Array.forIn_toList]
  have e1 : ButL [z] s.heap h₁ := ⟨hs₁.1, fun b n => hs₁.2 b fun e => n (by simp [e])⟩
  have nz : ∀ x ∈ xs, x.it ∉ [z] := fun x hx e => hzn (by rw [← List.mem_singleton.mp e]; exact List.mem_map.mpr ⟨x, hx, rfl⟩)
  refine draw_all (step := fun b x => (none, b.2.push x)) (fun it b Q s h => ?_) i xs vs { s with heap := h₁ } _ ap (fun x hx => (ha x hx).ext e1.ext (nz x hx)) (Has.ext e1.ext hv fun x hx e => hzl x hx (List.mem_singleton.mp e)) fun h₂ a₂ b₂ => ?_
  · refine wpAny_bind (wpAny_holding ?_)
    show wpAny _ _ (Builtin.SmallTypes.nextOf (.ref it) >>= _) _ _ _
    exact wpAny_bind (wpAny_mono h (fun x s' q => wpAny_pure (wpAny_pure q)) fun _ _ e => e)
  · rw [fold_push]
    have e2 : ((#[] : Array Value) ++ vs.toArray).toList = vs := by simp
    show wpAny _ _ (newTuple ((#[] : Array Value) ++ vs.toArray).toList >>= _) _ _ _
    rw [e2]
    refine wpAny_bind (wpAny_newTuple ?_ hsz)
    have sz : h₂.objs.size = s.heap.objs.size := by rw [b₂.1]; exact e1.1
    refine wpAny_pure ⟨_, rfl, ?_⟩
    show Q (.ref h₂.objs.size) _
    have k3 : ∀ b o, h₂.get? b = some o → (h₂.push { cls := .type "tuple", data := .seq vs.toArray }).get? b = some o := fun b o e => Heap.get?_push_of_some _ e
    have hp : IsTp (h₂.push { cls := .type "tuple", data := .seq vs.toArray }) h₂.objs.size vs.toArray := Heap.get?_push_size _ rfl
    have hq : (h₂.push { cls := .type "tuple", data := .seq vs.toArray }).objs.size = h₂.objs.size + 1 := Heap.size_push ..
    rw [sz] at hp hq ⊢
    refine hQ _ (k3 _ _ (b₂.ext _ _ hzn hz₁)) (fun x hx => (a₂ x hx).ext (cs := []) (fun b o _ e => k3 b o e) nofun) hp hq fun b o n e => ?_
    rw [List.mem_cons, not_or] at n
    exact k3 b o (b₂.ext b o n.2 (e1.ext b o (fun q => n.1 (List.mem_singleton.mp q)) e))
theorem zipN_held_end {z TI TO T : Addr} {f : Bool} {oT : Obj} {i : Nat} {xs : List Src} {Q : Fin → Shared → Prop} (hh : A.handled = none) (hne : xs ≠ []) (ap : Aprt xs) (hzn : z ∉ xs.map (·.it)) (hzl : ∀ x ∈ xs, x.l ≠ z) (hz : IsZ s.heap z TI TO (rawInt T) f) (hT : s.heap.get? T = some oT)
    (hTI : IsTp s.heap TI (xs.map fun x => Value.ref x.it).toArray) (ha : ∀ x ∈ xs, x.At s.heap i) (hon : ∀ x ∈ xs, ∃ items, x.On s.heap items) (hend : ∃ x ∈ xs, ∃ items, x.On s.heap items ∧ items[i]? = none)
    (hE : ∀ h' e, ExtL (z :: xs.map (·.it)) s.heap h' → IsStop h' e → E (.ref e) { s with heap := h' }) :
    wpAny (model prog w) A (Builtin.«zip.__next__» ⟨[.ref z], []⟩) Q E s := by
  show wpAny _ _ (field (.ref z) 2 >>= _) _ _ _
  refine wpAny_bind (wpAny_field hz rfl (x := .bool false) rfl ?_)
  show wpAny _ _ (field (.ref z) 3 >>= _) _ _ _
  refine wpAny_bind (wpAny_field hz rfl (x := .ref TI) rfl ?_)
  refine wpAny_bind (wpAny_seqItems hTI rfl ?_)
  have ne : ¬ (xs.map fun x => Value.ref x.it).toArray.isEmpty = true := by cases xs with
    | nil => exact absurd rfl hne
    | cons x r => simp
  dsimp only
  rw [if_neg ne]
  show wpAny _ _ (Builtin.SmallTypes.ownedTupleIsFree (.ref z) >>= _) _ _ _
  refine wpAny_bind (PySem.wpAny_tupleHeld_zip hz hT fun h₁ hz₁ hs₁ => ?_)
  simp only [Bool.false_eq_true, if_false]
  refine wpAny_bind ?_
  rw [← Array.forIn_toList]
  have e1 : ButL [z] s.heap h₁ := ⟨hs₁.1, fun b n => hs₁.2 b fun e => n (by simp [e])⟩
  have nz : ∀ x ∈ xs, x.it ∉ [z] := fun x hx e => hzn (by rw [← List.mem_singleton.mp e]; exact List.mem_map.mpr ⟨x, hx, rfl⟩)
  have nl : ∀ x ∈ xs, x.l ∉ [z] := fun x hx e => hzl x hx (List.mem_singleton.mp e)
  refine draw_end hh (step := fun b x => (none, b.2.push x)) (fun it b Q s h => ?_) i xs { s with heap := h₁ } _ ap (fun x hx => (ha x hx).ext e1.ext (nz x hx)) (fun x hx => let ⟨its, q⟩ := hon x hx; ⟨its, q.ext e1.ext (nl x hx)⟩)
    (let ⟨x, hx, its, q, r⟩ := hend; ⟨x, hx, its, q.ext e1.ext (nl x hx), r⟩) fun h₂ e e2 st => ?_
  · refine wpAny_bind (wpAny_holding ?_)
    show wpAny _ _ (Builtin.SmallTypes.nextOf (.ref it) >>= _) _ _ _
    exact wpAny_bind (wpAny_mono h (fun x s' q => wpAny_pure (wpAny_pure q)) fun _ _ e => e)
  · refine hE h₂ e (fun b o n hb => ?_) st
    rw [List.mem_cons, not_or] at n
    exact e2 b o n.2 (e1.ext b o (fun q => n.1 (List.mem_singleton.mp q)) hb)
end

def putFrom : Array Value → Nat → List Value → Array Value
  | a, _, [] => a
  | a, k, v :: vs => putFrom (a.setIfInBounds k v) (k + 1) vs
theorem putFrom_list : ∀ (vs : List Value) (k : Nat) (a : Array Value), a.size = k + vs.length → (putFrom a k vs).toList = a.toList.take k ++ vs
  | [], k, a, h => by
    unfold putFrom
    rw [List.append_nil, List.take_of_length_le (by simp at h ⊢; omega)]
  | v :: vs, k, a, h => by
    unfold putFrom
    rw [putFrom_list vs (k + 1) _ (by simp at h ⊢; omega)]
    have hk : k < a.toList.length := by simp at h ⊢; omega
    rw [Array.toList_setIfInBounds, List.take_add_one, List.getElem?_set_self hk, List.take_set_of_le (Nat.le_refl _)]
    simp
theorem putFrom_size : ∀ (vs : List Value) (k : Nat) (a : Array Value), (putFrom a k vs).size = a.size
  | [], _, _ => rfl
  | v :: vs, k, a => by unfold putFrom; rw [putFrom_size vs]; simp
section
variable {prog : Program} {w : World} {A : Around} {E : Value → Shared → Prop} {β : Type}
theorem draw_all1 {f : Value × Nat → β → Sem (ForInStep β)} {b0 : β} {TO : Addr} {E1 : Value → Shared → Prop} {Q : β → Shared → Prop}
    (hf : ∀ (it : Addr) (k : Nat) (Q : ForInStep β → Shared → Prop) (s : Shared), wpAny (model prog w) A (Builtin.SmallTypes.nextOf (.ref it)) (fun x s' => ∃ arr : Array Value, IsTp s'.heap TO arr ∧ arr.size ≤ sizeLine ∧
      ∀ h', IsTp h' TO (arr.setIfInBounds k x) → ButL [TO] s'.heap h' → Q (.yield b0) { s' with heap := h' }) E1 s → wpAny (model prog w) A (f (.ref it, k) b0) Q E s) (i : Nat) :
    ∀ (xs : List Src) (vs : List Value) (k : Nat) (arr : Array Value) (s : Shared), Aprt xs → TO ∉ xs.map (·.it) → (∀ x ∈ xs, x.l ≠ TO) → (∀ x ∈ xs, x.At s.heap i) → Has s.heap i xs vs → IsTp s.heap TO arr → arr.size ≤ sizeLine →
      (∀ h', (∀ x ∈ xs, x.At h' (i + 1)) → ButL (TO :: xs.map (·.it)) s.heap h' → IsTp h' TO (putFrom arr k vs) → Q b0 { s with heap := h' }) → wpAny (model prog w) A (forIn ((xs.map fun x => Value.ref x.it).zipIdx k) b0 f) Q E s
  | [], _, k, arr, s, ap, nT, nl, ha, .nil, hT, hz, hQ => by
    rw [List.map_nil, List.zipIdx_nil, List.forIn_nil]
    exact wpAny_pure (hQ s.heap (fun _ h => by cases h) ⟨rfl, fun _ _ => rfl⟩ hT)
  | x :: xs, v :: vs, k, arr, s, ap, nT, nl, ha, .cons ⟨its, ho, hv⟩ t, hT, hz, hQ => by
    rw [List.map_cons, List.zipIdx_cons, List.forIn_cons]
    have nT1 : TO ≠ x.it := fun e => nT (by rw [e]; simp)
    refine wpAny_bind (hf _ _ _ _ (nextOf_item (ha x (List.mem_cons_self ..)) ho hv fun h1 a1 b1 => ⟨arr, b1.ext _ _ (fun z => nT1 (List.mem_singleton.mp z)) hT, hz, fun h2 t2 b2 => ?_⟩))
    have nx : x.it ∉ xs.map (·.it) := (List.nodup_cons.mp ap.nd).1
    have b12 : ButL [TO, x.it] s.heap h2 := ⟨b2.1.trans b1.1, fun c hc => (b2.2 c fun z => hc (by simp [List.mem_singleton.mp z])).trans (b1.2 c fun z => hc (by simp [List.mem_singleton.mp z]))⟩
    have nT2 : TO ∉ xs.map (·.it) := fun z => nT (by simp only [List.map_cons, List.mem_cons]; exact .inr z)
    refine draw_all1 hf i xs vs (k + 1) (arr.setIfInBounds k v) { s with heap := h2 } ap.tail nT2 (fun y hy => nl y (List.mem_cons_of_mem _ hy)) (fun y hy => (ha y (List.mem_cons_of_mem _ hy)).ext b12.ext fun z => ?_) (Has.ext b12.ext t fun y hy z => ?_) t2 (by simpa using hz) fun h3 a3 b3 t3 => hQ h3 (fun y hy => ?_) ⟨b3.1.trans b12.1, fun c hc => ?_⟩ t3
    · simp only [List.mem_cons, List.not_mem_nil, or_false] at z
      rcases z with z | z
      · exact nT2 (by rw [← z]; exact List.mem_map.mpr ⟨y, hy, rfl⟩)
      · exact nx (by rw [← z]; exact List.mem_map.mpr ⟨y, hy, rfl⟩)
    · simp only [List.mem_cons, List.not_mem_nil, or_false] at z
      rcases z with z | z
      · exact nl y (List.mem_cons_of_mem _ hy) z
      · exact ap.nl y (List.mem_cons_of_mem _ hy) x (List.mem_cons_self ..) z
    · rcases List.mem_cons.mp hy with rfl | hy
      · exact (a1.ext b2.ext fun z => nT1 (List.mem_singleton.mp z).symm).ext b3.ext fun z => by
          rcases List.mem_cons.mp z with z | z
          · exact nT1 z.symm
          · exact nx z
      · exact a3 y hy
    · rw [List.map_cons, List.mem_cons, List.mem_cons, not_or, not_or] at hc
      exact (b3.2 c fun z => (List.mem_cons.mp z).elim hc.1 hc.2.2).trans (b12.2 c fun z => by
        simp only [List.mem_cons, List.not_mem_nil, or_false] at z
        exact z.elim hc.1 hc.2.1)
theorem draw_end1 {f : Value × Nat → β → Sem (ForInStep β)} {b0 : β} {TO : Addr} {E1 : Value → Shared → Prop} {Q : β → Shared → Prop} (hh : A.handled = none)
    (hf : ∀ (it : Addr) (k : Nat) (Q : ForInStep β → Shared → Prop) (s : Shared), wpAny (model prog w) A (Builtin.SmallTypes.nextOf (.ref it)) (fun x s' => ∃ arr : Array Value, IsTp s'.heap TO arr ∧ arr.size ≤ sizeLine ∧
      ∀ h', IsTp h' TO (arr.setIfInBounds k x) → ButL [TO] s'.heap h' → Q (.yield b0) { s' with heap := h' }) E1 s → wpAny (model prog w) A (f (.ref it, k) b0) Q E s) (i : Nat) :
    ∀ (xs : List Src) (k : Nat) (arr : Array Value) (s : Shared), Aprt xs → TO ∉ xs.map (·.it) → (∀ x ∈ xs, x.l ≠ TO) → (∀ x ∈ xs, x.At s.heap i) → (∀ x ∈ xs, ∃ items, x.On s.heap items) → (∃ x ∈ xs, ∃ items, x.On s.heap items ∧ items[i]? = none) → IsTp s.heap TO arr → arr.size ≤ sizeLine →
      (∀ h' e, ExtL (TO :: xs.map (·.it)) s.heap h' → IsStop h' e → E1 (.ref e) { s with heap := h' }) → wpAny (model prog w) A (forIn ((xs.map fun x => Value.ref x.it).zipIdx k) b0 f) Q E s
  | [], k, arr, s, ap, nT, nl, ha, hon, ⟨x, hx, _⟩, hT, hz, hE => by cases hx
  | x :: xs, k, arr, s, ap, nT, nl, ha, hon, hend, hT, hz, hE => by
    rw [List.map_cons, List.zipIdx_cons, List.forIn_cons]
    have nT1 : TO ≠ x.it := fun e => nT (by rw [e]; simp)
    obtain ⟨its, ho⟩ := hon x (List.mem_cons_self ..)
    cases hv : its[i]? with
    | none =>
      refine wpAny_bind (hf _ _ _ _ (nextOf_end hh (ha x (List.mem_cons_self ..)) ho hv fun h1 e e1 st => hE h1 e (fun c o n => e1 c o fun z => n ?_) st))
      rw [List.mem_singleton.mp z]; simp
    | some v =>
      refine wpAny_bind (hf _ _ _ _ (nextOf_item (ha x (List.mem_cons_self ..)) ho hv fun h1 a1 b1 => ⟨arr, b1.ext _ _ (fun z => nT1 (List.mem_singleton.mp z)) hT, hz, fun h2 t2 b2 => ?_⟩))
      have nx : x.it ∉ xs.map (·.it) := (List.nodup_cons.mp ap.nd).1
      have b12 : ButL [TO, x.it] s.heap h2 := ⟨b2.1.trans b1.1, fun c hc => (b2.2 c fun z => hc (by simp [List.mem_singleton.mp z])).trans (b1.2 c fun z => hc (by simp [List.mem_singleton.mp z]))⟩
      have nT2 : TO ∉ xs.map (·.it) := fun z => nT (by simp only [List.map_cons, List.mem_cons]; exact .inr z)
      have nlx : ∀ y ∈ x :: xs, y.l ∉ [TO, x.it] := fun y hy z => by
        simp only [List.mem_cons, List.not_mem_nil, or_false] at z
        rcases z with z | z
        · exact nl y hy z
        · exact ap.nl y hy x (List.mem_cons_self ..) z
      refine draw_end1 hh hf i xs (k + 1) (arr.setIfInBounds k v) { s with heap := h2 } ap.tail nT2 (fun y hy => nl y (List.mem_cons_of_mem _ hy)) (fun y hy => (ha y (List.mem_cons_of_mem _ hy)).ext b12.ext fun z => ?_) (fun y hy => ?_) ?_ t2 (by simpa using hz) fun h3 e e3 st => hE h3 e (fun c o n hc => ?_) st
      · simp only [List.mem_cons, List.not_mem_nil, or_false] at z
        rcases z with z | z
        · exact nT2 (by rw [← z]; exact List.mem_map.mpr ⟨y, hy, rfl⟩)
        · exact nx (by rw [← z]; exact List.mem_map.mpr ⟨y, hy, rfl⟩)
      · obtain ⟨it2, q⟩ := hon y (List.mem_cons_of_mem _ hy)
        exact ⟨it2, q.ext b12.ext (nlx y (List.mem_cons_of_mem _ hy))⟩
      · obtain ⟨y, hy, it2, q, hn⟩ := hend
        rcases List.mem_cons.mp hy with rfl | hy2
        · exfalso
          have : it2 = its := by
            unfold Src.On at q ho
            split at q <;> rename_i c
            · rw [if_pos c] at ho
              obtain ⟨o, e1, _, _, d1⟩ := q
              obtain ⟨o2, e2, _, _, d2⟩ := ho
              rw [e1] at e2; cases e2; rw [d1] at d2; cases d2; rfl
            · rw [if_neg c] at ho
              obtain ⟨o, e1, _, _, d1⟩ := q
              obtain ⟨o2, e2, _, _, d2⟩ := ho
              rw [e1] at e2; cases e2; rw [d1] at d2; cases d2; rfl
          subst this
          rw [hv] at hn; cases hn
        · exact ⟨y, hy2, it2, q.ext b12.ext (nlx y hy), hn⟩
      · rw [List.map_cons, List.mem_cons, List.mem_cons, not_or, not_or] at n
        exact e3 c o (fun z => (List.mem_cons.mp z).elim n.1 n.2.2) (b12.ext c o (fun z => by
          simp only [List.mem_cons, List.not_mem_nil, or_false] at z
          exact z.elim n.1 n.2.1) hc)
end
end PB

namespace PB
open PySem
section
variable {prog : Program} {w : World} {A : Around} {E : Value → Shared → Prop} {s : Shared}
theorem dead_ok {a : Addr} {Q : Option Obj → Shared → Prop} (ho : s.heap.get? a = none) (h : Q none s) : wpAny (model prog w) A (loadIfAlive a) Q E s := fun Γ p _ => by
  unfold loadIfAlive
  rw [Sem.wp_loadIfAlive, ho]
  exact h
/-- the tuple handed out last is gone -/
def IsFree (s : Shared) (old : Value) : Prop := old = .none ∨ ∃ T : Addr, old = rawInt T ∧ s.heap.get? T = none
theorem free_ok {z : Addr} {o : Obj} {old : Value} {vs : List Value} {Q : Bool → Shared → Prop} (hz : s.heap.get? z = some o) (hd : o.data = .fields (old :: vs).toArray) (hf : IsFree s old) (h : Q true s) : wpAny (model prog w) A (Builtin.SmallTypes.ownedTupleIsFree (.ref z)) Q E s := by
  unfold Builtin.SmallTypes.ownedTupleIsFree
  rcases hf with rfl | ⟨T, rfl, hT⟩
  · exact wpAny_bind (wpAny_field hz hd (x := .none) rfl (wpAny_pure h))
  · refine wpAny_bind (wpAny_field hz hd (x := rawInt T) rfl ?_)
    show wpAny _ _ (loadIfAlive ((T : Int).toNat) >>= _) _ _ _
    rw [Int.toNat_natCast]
    refine wpAny_bind (dead_ok hT ?_)
    simp only [Option.isNone_none, if_true]
    exact wpAny_pure h
theorem zipN_free {z TI TO : Addr} {old : Value} {fl : Bool} {i : Nat} {xs : List Src} {vs : List Value} {arr : Array Value} {Q : Value → Shared → Prop} (hne : xs ≠ []) (ap : Aprt xs) (hzn : z ∉ xs.map (·.it)) (hzl : ∀ x ∈ xs, x.l ≠ z) (hTn : TO ∉ xs.map (·.it)) (hTl : ∀ x ∈ xs, x.l ≠ TO) (hzT : z ≠ TO)
    (hz : IsZ s.heap z TI TO old fl) (hfr : IsFree s old) (hTI : IsTp s.heap TI (xs.map fun x => Value.ref x.it).toArray) (hTO : IsTp s.heap TO arr) (har : arr.size = xs.length) (ha : ∀ x ∈ xs, x.At s.heap i) (hv : Has s.heap i xs vs) (hsz : vs.length ≤ sizeLine)
    (hQ : ∀ h', IsZ h' z TI TO (rawInt s.heap.objs.size) false → (∀ x ∈ xs, x.At h' (i + 1)) → IsTp h' TO vs.toArray → IsTp h' s.heap.objs.size vs.toArray → h'.objs.size = s.heap.objs.size + 1 → ExtL (z :: TO :: xs.map (·.it)) s.heap h' → Q (.ref s.heap.objs.size) { s with heap := h' }) :
    wpAny (model prog w) A (Builtin.«zip.__next__» ⟨[.ref z], []⟩) (fun fin s' => ∃ v, fin = .done (.ret v) ∧ Q v s') E s := by
  show wpAny _ _ (field (.ref z) 2 >>= _) _ _ _
  refine wpAny_bind (wpAny_field hz rfl (x := .bool false) rfl ?_)
  show wpAny _ _ (field (.ref z) 3 >>= _) _ _ _
  refine wpAny_bind (wpAny_field hz rfl (x := .ref TI) rfl ?_)
  refine wpAny_bind (wpAny_seqItems hTI rfl ?_)
  have ne : ¬ (xs.map fun x => Value.ref x.it).toArray.isEmpty = true := by cases xs with
    | nil => exact absurd rfl hne
    | cons x r => simp
  dsimp only
  rw [if_neg ne]
  show wpAny _ _ (Builtin.SmallTypes.ownedTupleIsFree (.ref z) >>= _) _ _ _
  refine wpAny_bind (free_ok hz rfl hfr ?_)
  simp only [if_true]
  refine wpAny_bind (wpAny_rule ?_)
  refine wpAny_bind (wpAny_field hz rfl (x := .ref TO) rfl ?_)
  refine wpAny_bind (wpAny_setField_rec hz (by simp) fun h₁ hz₁ hs₁ => ?_)
  replace hz₁ : IsZ h₁ z TI TO .ellipsis fl := hz₁
  have e1 : ButL [z] s.heap h₁ := ⟨hs₁.1, fun b n => hs₁.2 b fun e => n (by simp [e])⟩
  have nz : ∀ x ∈ xs, x.it ∉ [z] := fun x hx e => hzn (by rw [← List.mem_singleton.mp e]; exact List.mem_map.mpr ⟨x, hx, rfl⟩)
  have el : vs.length = xs.length := (Paired.length hv).symm
  refine wpAny_bind ?_
  refine draw_all1 (TO := TO) (E1 := fun e s' => wpAny (model prog w) A (setField (.ref z) 0 .none) (fun _ s'' => E e s'') E s') (fun it k Q s h => ?_) i xs vs 0 arr { s with heap := h₁ } ap hTn hTl (fun x hx => (ha x hx).ext e1.ext (nz x hx)) (Has.ext e1.ext hv fun x hx e => hzl x hx (List.mem_singleton.mp e))
    (e1.ext _ _ (fun e => hzT (List.mem_singleton.mp e).symm) hTO) (by omega) fun h₂ a₂ b₂ t₂ => ?_
  · refine wpAny_bind (wpAny_onRaise ?_)
    show wpAny _ _ (Builtin.SmallTypes.nextOf (.ref it) >>= _) _ _ _
    refine wpAny_bind (wpAny_mono h (fun x s' ⟨arr', t', z', q⟩ => wpAny_pure ?_) fun _ _ e => e)
    refine wpAny_bind (wpAny_seqItems t' rfl ?_)
    refine wpAny_bind (wpAny_updateSeq t' rfl ?_ z' (by simp; omega))
    refine wpAny_bind (wpAny_letGo (wpAny_pure ?_))
    refine q _ ?_ ⟨(Heap.SameBut.update ..).1, fun b n => (Heap.SameBut.update (h := s'.heap) (a := TO) (f := Obj.mapSeq fun x_1 => x_1.setIfInBounds k x)).2 b fun e => n (by simp [e])⟩
    show IsTp _ TO _
    unfold IsTp
    rw [Heap.get?_update_self _ t' rfl]
    simp [Obj.mapSeq]
  · have eL : (putFrom arr 0 vs).toList = vs := by rw [putFrom_list vs 0 arr (by omega)]; simp
    have eA : putFrom arr 0 vs = vs.toArray := Array.ext' (by simpa using eL)
    rw [eA] at t₂
    refine wpAny_bind (wpAny_seqItems t₂ rfl ?_)
    have e3 : vs.toArray.toList = vs := by simp
    show wpAny _ _ (newTuple vs.toArray.toList >>= _) _ _ _
    rw [e3]
    refine wpAny_bind (wpAny_newTuple ?_ hsz)
    have sz : h₂.objs.size = s.heap.objs.size := by rw [b₂.1]; exact e1.1
    have zn : z ∉ TO :: xs.map (·.it) := fun e => (List.mem_cons.mp e).elim hzT hzn
    have hz₂ : IsZ h₂ z TI TO .ellipsis fl := b₂.ext _ _ zn hz₁
    have hzlt : z < h₂.objs.size := Heap.lt_size hz₂
    show wpAny _ _ (Builtin.SmallTypes.ownedTupleHandOut (.ref z) (.ref h₂.objs.size) >>= _) _ _ _
    refine wpAny_bind ?_
    unfold Builtin.SmallTypes.ownedTupleHandOut
    have hz₃ : IsZ (h₂.push { cls := .type "tuple", data := .seq vs.toArray }) z TI TO .ellipsis fl := Heap.get?_push_of_some _ hz₂
    refine wpAny_bind (wpAny_setField_rec hz₃ (by simp) fun h₄ hz₄ hs₄ => ?_)
    replace hz₄ : IsZ h₄ z TI TO (rawInt h₂.objs.size) fl := hz₄
    refine wpAny_setField_rec hz₄ (by simp) fun h₅ hz₅ hs₅ => ?_
    replace hz₅ : IsZ h₅ z TI TO (rawInt h₂.objs.size) false := hz₅
    have up : ∀ c o, c ≠ z → h₂.get? c = some o → h₅.get? c = some o := fun c o c1 e => hs₅.extBut _ _ c1 (hs₄.extBut _ _ c1 (Heap.get?_push_of_some _ e))
    have hT₅ : IsTp h₅ h₂.objs.size vs.toArray := hs₅.extBut _ _ (Nat.ne_of_gt hzlt) (hs₄.extBut _ _ (Nat.ne_of_gt hzlt) (Heap.get?_push_size _ rfl))
    have sz5 : h₅.objs.size = h₂.objs.size + 1 := by rw [hs₅.1, hs₄.1, Heap.size_push]
    rw [sz] at hz₅ hT₅ sz5
    refine wpAny_pure ⟨_, rfl, ?_⟩
    show Q (.ref h₂.objs.size) _
    rw [sz]
    refine hQ h₅ hz₅ (fun x hx => (a₂ x hx).ext (cs := [z]) (fun b o n e => up b o (fun q => n (by simp [q])) e) (nz x hx)) (up _ _ (Ne.symm hzT) t₂) hT₅ sz5 fun b o n e => ?_
    rw [List.mem_cons, not_or] at n
    exact up b o n.1 (b₂.ext b o n.2 (e1.ext b o (fun q => n.1 (List.mem_singleton.mp q)) e))
theorem zipN_free_end {z TI TO : Addr} {old : Value} {fl : Bool} {i : Nat} {xs : List Src} {arr : Array Value} {Q : Fin → Shared → Prop} (hh : A.handled = none) (hne : xs ≠ []) (ap : Aprt xs) (hzn : z ∉ xs.map (·.it)) (hzl : ∀ x ∈ xs, x.l ≠ z) (hTn : TO ∉ xs.map (·.it)) (hTl : ∀ x ∈ xs, x.l ≠ TO) (hzT : z ≠ TO)
    (hz : IsZ s.heap z TI TO old fl) (hfr : IsFree s old) (hTI : IsTp s.heap TI (xs.map fun x => Value.ref x.it).toArray) (hTO : IsTp s.heap TO arr) (har : arr.size ≤ sizeLine) (ha : ∀ x ∈ xs, x.At s.heap i) (hon : ∀ x ∈ xs, ∃ items, x.On s.heap items) (hend : ∃ x ∈ xs, ∃ items, x.On s.heap items ∧ items[i]? = none)
    (hE : ∀ h' e, ExtL (z :: TO :: xs.map (·.it)) s.heap h' → IsStop h' e → E (.ref e) { s with heap := h' }) :
    wpAny (model prog w) A (Builtin.«zip.__next__» ⟨[.ref z], []⟩) Q E s := by
  show wpAny _ _ (field (.ref z) 2 >>= _) _ _ _
  refine wpAny_bind (wpAny_field hz rfl (x := .bool false) rfl ?_)
  show wpAny _ _ (field (.ref z) 3 >>= _) _ _ _
  refine wpAny_bind (wpAny_field hz rfl (x := .ref TI) rfl ?_)
  refine wpAny_bind (wpAny_seqItems hTI rfl ?_)
  have ne : ¬ (xs.map fun x => Value.ref x.it).toArray.isEmpty = true := by cases xs with
    | nil => exact absurd rfl hne
    | cons x r => simp
  dsimp only
  rw [if_neg ne]
  show wpAny _ _ (Builtin.SmallTypes.ownedTupleIsFree (.ref z) >>= _) _ _ _
  refine wpAny_bind (free_ok hz rfl hfr ?_)
  simp only [if_true]
  refine wpAny_bind (wpAny_rule ?_)
  refine wpAny_bind (wpAny_field hz rfl (x := .ref TO) rfl ?_)
  refine wpAny_bind (wpAny_setField_rec hz (by simp) fun h₁ hz₁ hs₁ => ?_)
  replace hz₁ : IsZ h₁ z TI TO .ellipsis fl := hz₁
  have e1 : ButL [z] s.heap h₁ := ⟨hs₁.1, fun b n => hs₁.2 b fun e => n (by simp [e])⟩
  have nz : ∀ x ∈ xs, x.it ∉ [z] := fun x hx e => hzn (by rw [← List.mem_singleton.mp e]; exact List.mem_map.mpr ⟨x, hx, rfl⟩)
  have nl : ∀ x ∈ xs, x.l ∉ [z] := fun x hx e => hzl x hx (List.mem_singleton.mp e)
  have zn : z ∉ TO :: xs.map (·.it) := fun e => (List.mem_cons.mp e).elim hzT hzn
  refine wpAny_bind ?_
  refine draw_end1 hh (TO := TO) (E1 := fun e s' => wpAny (model prog w) A (setField (.ref z) 0 .none) (fun _ s'' => E e s'') E s') (fun it k Q s h => ?_) i xs 0 arr { s with heap := h₁ } ap hTn hTl (fun x hx => (ha x hx).ext e1.ext (nz x hx)) (fun x hx => let ⟨its, q⟩ := hon x hx; ⟨its, q.ext e1.ext (nl x hx)⟩)
    (let ⟨x, hx, its, q, r⟩ := hend; ⟨x, hx, its, q.ext e1.ext (nl x hx), r⟩) (e1.ext _ _ (fun e => hzT (List.mem_singleton.mp e).symm) hTO) har fun h₂ e e2 st => ?_
  · refine wpAny_bind (wpAny_onRaise ?_)
    show wpAny _ _ (Builtin.SmallTypes.nextOf (.ref it) >>= _) _ _ _
    refine wpAny_bind (wpAny_mono h (fun x s' ⟨arr', t', z', q⟩ => wpAny_pure ?_) fun _ _ e => e)
    refine wpAny_bind (wpAny_seqItems t' rfl ?_)
    refine wpAny_bind (wpAny_updateSeq t' rfl ?_ z' (by simp; omega))
    refine wpAny_bind (wpAny_letGo (wpAny_pure ?_))
    refine q _ ?_ ⟨(Heap.SameBut.update ..).1, fun b n => (Heap.SameBut.update (h := s'.heap) (a := TO) (f := Obj.mapSeq fun x_1 => x_1.setIfInBounds k x)).2 b fun e => n (by simp [e])⟩
    show IsTp _ TO _
    unfold IsTp
    rw [Heap.get?_update_self _ t' rfl]
    simp [Obj.mapSeq]
  · have hz₂ : IsZ h₂ z TI TO .ellipsis fl := e2 _ _ zn hz₁
    obtain ⟨o, ho, hc⟩ := st
    have ne2 : e ≠ z := fun q => by subst q; rw [hz₂] at ho; cases ho; simp at hc
    refine wpAny_setField_rec hz₂ (by simp) fun h₃ _ hs₃ => hE h₃ e (fun b o' n hb => ?_) ⟨o, hs₃.extBut _ _ ne2 ho, hc⟩
    rw [List.mem_cons, not_or] at n
    exact hs₃.extBut _ _ n.1 (e2 b o' n.2 (e1.ext b o' (fun q => n.1 (List.mem_singleton.mp q)) hb))
end

end PB

namespace PB
open PySem PySem.Spec PyProof.Rows L2

section
variable {prog : Program} {w : World} {A : Around} {E : Value → Shared → Prop} {s : Shared}
/-- new iterators over ls, laid above n -/
structure News (ls : List (Bool × Addr)) (xs : List Src) (n : Nat) (h : Heap) : Prop where
  src : xs.map (fun x => (x.t, x.l)) = ls
  ge : ∀ x ∈ xs, n ≤ x.it
  lt : ∀ x ∈ xs, x.it < h.objs.size
  nd : (xs.map (·.it)).Nodup
  at_ : ∀ x ∈ xs, x.At h 0
def SeqAt (h : Heap) (p : Bool × Addr) : Prop := if p.1 then ∃ items, h.IsTuple p.2 items else ∃ items, h.IsList p.2 items
theorem seqAt_keep {h h' : Heap} (k : ∀ b o, h.get? b = some o → h'.get? b = some o) {p : Bool × Addr} (q : SeqAt h p) : SeqAt h' p := by
  unfold SeqAt at *
  split <;> rename_i c
  · rw [if_pos c] at q; obtain ⟨i, o, e, r⟩ := q; exact ⟨i, o, k _ _ e, r⟩
  · rw [if_neg c] at q; obtain ⟨i, o, e, r⟩ := q; exact ⟨i, o, k _ _ e, r⟩
theorem pyIter_ok {p : Bool × Addr} {Q : Value → Shared → Prop} (h : SeqAt s.heap p)
    (hQ : ∀ h', (⟨p.1, s.heap.objs.size, p.2⟩ : Src).At h' 0 → h'.objs.size = s.heap.objs.size + 1 → (∀ b o, s.heap.get? b = some o → h'.get? b = some o) → Q (.ref s.heap.objs.size) { s with heap := h' }) :
    wpAny (model prog w) A (pyIter (.ref p.2)) Q E s := by
  unfold SeqAt at h
  split at h <;> rename_i c
  · obtain ⟨items, h⟩ := h
    refine wpAny_pyIter_tuple h (hQ _ ?_ (Heap.size_push ..) fun b o e => Heap.get?_push_of_some _ e)
    unfold Src.At
    rw [if_pos c]
    exact ⟨_, Heap.get?_push_size _ rfl, rfl, rfl⟩
  · obtain ⟨items, h⟩ := h
    refine wpAny_pyIter_list h (hQ _ ?_ (Heap.size_push ..) fun b o e => Heap.get?_push_of_some _ e)
    unfold Src.At
    rw [if_neg c]
    exact ⟨_, Heap.get?_push_size _ rfl, rfl, rfl⟩
theorem iter_loop {f : Value → Array Value → Sem (ForInStep (Array Value))} {Q : Array Value → Shared → Prop}
    (hf : ∀ (v : Value) (b : Array Value) (Q : ForInStep (Array Value) → Shared → Prop) (s : Shared), wpAny (model prog w) A (pyIter v) (fun x s' => Q (.yield (b.push x)) s') E s → wpAny (model prog w) A (f v b) Q E s) :
    ∀ (ls : List (Bool × Addr)) (s : Shared) (b : Array Value), (∀ p ∈ ls, SeqAt s.heap p) →
      (∀ h' xs, News ls xs s.heap.objs.size h' → s.heap.objs.size ≤ h'.objs.size → (∀ b o, s.heap.get? b = some o → h'.get? b = some o) → Q (b ++ (xs.map fun x => Value.ref x.it).toArray) { s with heap := h' }) → wpAny (model prog w) A (forIn (ls.map fun p => Value.ref p.2) b f) Q E s
  | [], s, b, h, hQ => by
    rw [List.map_nil, List.forIn_nil]
    exact wpAny_pure (by simpa using hQ s.heap [] ⟨rfl, nofun, nofun, List.nodup_nil, nofun⟩ (Nat.le_refl _) (fun _ _ e => e))
  | p :: ls, s, b, h, hQ => by
    rw [List.map_cons, List.forIn_cons]
    refine wpAny_bind (hf _ _ _ _ (pyIter_ok (h p (List.mem_cons_self ..)) fun h1 a1 z1 k1 => ?_))
    refine iter_loop hf ls { s with heap := h1 } _ (fun q hq => seqAt_keep k1 (h q (List.mem_cons_of_mem _ hq))) fun h2 xs n2 z2 k2 => ?_
    have z2 : h1.objs.size ≤ h2.objs.size := z2
    have := hQ h2 (⟨p.1, s.heap.objs.size, p.2⟩ :: xs) ⟨by simp [n2.src], fun x hx => ?_, fun x hx => ?_, ?_, fun x hx => ?_⟩ (by omega) (fun b o e => k2 b o (k1 b o e))
    · have e : b.push (Value.ref s.heap.objs.size) ++ (List.map (fun x => Value.ref x.it) xs).toArray = b ++ (List.map (fun x => Value.ref x.it) (⟨p.1, s.heap.objs.size, p.2⟩ :: xs)).toArray := by
        apply Array.ext'; simp
      rw [e]; exact this
    · rcases List.mem_cons.mp hx with rfl | hx
      · exact Nat.le_refl _
      · have := n2.ge x hx; have q : h1.objs.size ≤ x.it := this; omega
    · rcases List.mem_cons.mp hx with rfl | hx
      · show s.heap.objs.size < _; omega
      · exact n2.lt x hx
    · rw [List.map_cons, List.nodup_cons]
      refine ⟨fun z => ?_, n2.nd⟩
      obtain ⟨y, hy, e⟩ := List.mem_map.mp z
      have q : h1.objs.size ≤ y.it := n2.ge y hy
      have q : h1.objs.size ≤ s.heap.objs.size := by rw [← show y.it = s.heap.objs.size from e]; exact q
      omega
    · rcases List.mem_cons.mp hx with rfl | hx
      · exact a1.ext (cs := []) (fun b o _ e => k2 b o e) nofun
      · exact n2.at_ x hx
theorem iterAll_ok {ls : List (Bool × Addr)} {Q : List Value → Shared → Prop} (h : ∀ p ∈ ls, SeqAt s.heap p)
    (hQ : ∀ h' xs, News ls xs s.heap.objs.size h' → s.heap.objs.size ≤ h'.objs.size → (∀ b o, s.heap.get? b = some o → h'.get? b = some o) → Q (xs.map fun x => Value.ref x.it) { s with heap := h' }) :
    wpAny (model prog w) A (Builtin.SmallTypes.iterAll (ls.map fun p => Value.ref p.2)) Q E s := by
  unfold Builtin.SmallTypes.iterAll
  refine wpAny_bind (iter_loop (fun v b Q s h => ?_) ls s _ h fun h' xs n z k => wpAny_pure ?_)
  · exact wpAny_bind (wpAny_holding (wpAny_mono h (fun x s' q => wpAny_pure q) fun _ _ e => e))
  · simpa using hQ h' xs n z k
/-- what zip(..) leaves -/
structure ZNew (ls : List (Bool × Addr)) (n : Nat) (xs : List Src) (z TI TO : Addr) (h : Heap) : Prop where
  src : xs.map (fun x => (x.t, x.l)) = ls
  ge : ∀ x ∈ xs, n ≤ x.it
  nd : (xs.map (·.it)).Nodup
  at_ : ∀ x ∈ xs, x.At h 0
  zz : IsZ h z TI TO .none false
  ti : IsTp h TI (xs.map fun x => Value.ref x.it).toArray
  to : IsTp h TO (xs.map fun _ => Value.none).toArray
  lt : ∀ x ∈ xs, x.it < TI
  l1 : TI < TO
  l2 : TO < z
  gn : n ≤ TI
theorem meets_zip_newN (ls : List (Bool × Addr)) (hl : ls.length ≤ sizeLine) : Meets (Builtin.«zip.__new__» ⟨.type "zip" :: ls.map fun p => Value.ref p.2, []⟩) (fun _ R s => (∀ p ∈ ls, SeqAt s.heap p) ∧
    ∀ h' xs z TI TO, ZNew ls s.heap.objs.size xs z TI TO h' → (∀ b o, s.heap.get? b = some o → h'.get? b = some o) → R (.ok (.ret (.ref z))) { s with heap := h' }) := .of_wp fun prog w A R s h => by
  obtain ⟨hp, g, d, tk, os⟩ := s
  obtain ⟨h1, h⟩ := h
  have hsub := sub_zip
  have q : ∀ {A' : Around} {E : Value → Shared → Prop} {Q : List Value → Shared → Prop}, (∀ h' xs, News ls xs hp.objs.size h' → hp.objs.size ≤ h'.objs.size → (∀ b o, hp.get? b = some o → h'.get? b = some o) → Q (xs.map fun x => Value.ref x.it) ⟨h', g, d, tk, os⟩) →
    wpAny (model prog w) A' (Builtin.SmallTypes.iterAll (ls.map fun p => Value.ref p.2)) Q E ⟨hp, g, d, tk, os⟩ := fun k => iterAll_ok h1 k
  wp_walk using q
  intro h1' xs n z k
  have el : xs.length = ls.length := by rw [← n.src, List.length_map]
  refine wpAny_bind (wpAny_newTuple ?_ (by rw [List.length_map]; omega))
  refine wpAny_bind (wpAny_newTuple ?_ (by rw [List.length_map, List.length_map]; omega))
  have z1 : (h1'.push { cls := .type "tuple", data := .seq (xs.map fun x => Value.ref x.it).toArray }).objs.size = h1'.objs.size + 1 := Heap.size_push ..
  have z2 : ((h1'.push { cls := .type "tuple", data := .seq (xs.map fun x => Value.ref x.it).toArray }).push { cls := .type "tuple", data := .seq ((xs.map fun x => Value.ref x.it).map fun _ => Value.none).toArray }).objs.size = h1'.objs.size + 2 := by rw [Heap.size_push, z1]
  show wpAny _ _ (Builtin.SmallTypes.newRecord (.type "zip") [.none, .bool false, .bool false, .ref h1'.objs.size, .ref (h1'.push { cls := .type "tuple", data := .seq (xs.map fun x => Value.ref x.it).toArray }).objs.size] >>= _) _ _ _
  rw [z1]
  have fin : ∀ h', h'.get? (h1'.objs.size + 2) = some { cls := .type "zip", data := .fields #[.none, .bool false, .bool false, .ref h1'.objs.size, .ref (h1'.objs.size + 1)] } →
      (∀ b o, ((h1'.push { cls := .type "tuple", data := .seq (xs.map fun x => Value.ref x.it).toArray }).push { cls := .type "tuple", data := .seq ((xs.map fun x => Value.ref x.it).map fun _ => Value.none).toArray }).get? b = some o → h'.get? b = some o) →
      R (.ok (.ret (.ref (h1'.objs.size + 2)))) ⟨h', g, d, tk, os⟩ := fun h' e2 k2 => by
    have kk : ∀ b o, h1'.get? b = some o → h'.get? b = some o := fun b o e => k2 b o (Heap.get?_push_of_some _ (Heap.get?_push_of_some _ e))
    have g1 : h'.get? h1'.objs.size = some { cls := .type "tuple", data := .seq (xs.map fun x => Value.ref x.it).toArray } := k2 _ _ (Heap.get?_push_of_some _ (Heap.get?_push_size _ rfl))
    have g2 : h'.get? (h1'.objs.size + 1) = some { cls := .type "tuple", data := .seq ((xs.map fun x => Value.ref x.it).map fun _ => Value.none).toArray } := by
      rw [← z1]
      exact k2 _ _ (Heap.get?_push_size _ rfl)
    refine h h' xs (h1'.objs.size + 2) h1'.objs.size (h1'.objs.size + 1) ⟨n.src, n.ge, n.nd, fun x hx => (n.at_ x hx).ext (cs := []) (fun b o _ e => kk b o e) nofun, e2, g1, ?_, n.lt, Nat.lt_succ_self _, Nat.lt_succ_self _, z⟩ (fun b o e => kk b o (k b o e))
    show h'.get? _ = _
    rw [g2, List.map_map]
    rfl
  have gz := Heap.get?_push_size ((h1'.push { cls := .type "tuple", data := .seq (xs.map fun x => Value.ref x.it).toArray }).push { cls := .type "tuple", data := .seq ((xs.map fun x => Value.ref x.it).map fun _ => Value.none).toArray }) (o := { cls := .type "zip", data := .fields #[.none, .bool false, .bool false, .ref h1'.objs.size, .ref (h1'.objs.size + 1)] }) rfl
  rw [z2] at gz
  have fin2 := fin _ gz fun b o e => Heap.get?_push_of_some _ e
  wp_walk
  rw [z2]
  exact ⟨_, rfl, fin2⟩
end
end PB

namespace PB
open PySem PySem.Spec PyProof.Rows L2

theorem newCall_zipN : ∀ us : List Value, 1 ≤ us.length → us.length ≤ 5 → checkBuiltinCall "zip.__new__" ⟨.type "zip" :: us, []⟩ = pure () ∧ ∀ z, argsOk "object.__init__" ⟨z :: us, []⟩
  | [], h, _ => absurd h (by simp)
  | [a], _, _ => ⟨newCall_zip1 a, fun z => F.args_object_init_2 z a⟩
  | [a, b], _, _ => ⟨F.newCall_zip_2 a b, fun z => F.args_object_init_3 z a b⟩
  | [a, b, c], _, _ => ⟨newCall_zip3 a b c, fun z => object_init4 z a b c⟩
  | [a, b, c, d], _, _ => ⟨newCall_zip4 a b c d, fun z => object_init5 z a b c d⟩
  | [a, b, c, d, e], _, _ => ⟨newCall_zip5 a b c d e, fun z => object_init6 z a b c d e⟩
  | _ :: _ :: _ :: _ :: _ :: _ :: _, _, h => absurd h (by simp)
section
variable {prog : Program} {w : World} {A : Around} {E : Value → Shared → Prop} {s : Shared}
theorem call_zipN {ls : List (Bool × Addr)} {Q : Value → Shared → Prop} (h1 : 1 ≤ ls.length) (h5 : ls.length ≤ 5) (hs : ∀ p ∈ ls, SeqAt s.heap p)
    (h : ∀ h' xs z TI TO, ZNew ls s.heap.objs.size xs z TI TO h' → (∀ b o, s.heap.get? b = some o → h'.get? b = some o) → Q (.ref z) { s with heap := h' }) : wpAny (model prog w) A (call (.type "zip") (ls.map fun p => Value.ref p.2)) Q E s := by
  obtain ⟨c1, c2⟩ := newCall_zipN (ls.map fun p => Value.ref p.2) (by rw [List.length_map]; exact h1) (by rw [List.length_map]; exact h5)
  refine callType_new F.called_zip (by decide) (typeCall_zipN _) c1 (fun obj => c2 obj) F.entry_zip_new (meets_zip_newN ls (by rw [sizeLine_eq]; omega)) ⟨hs, fun h' xs z TI TO zn k => ?_⟩
  exact ⟨⟨_, zn.zz, rfl⟩, h h' xs z TI TO zn k⟩
theorem pyIter_zipN {z TI TO : Addr} {old : Value} {fl : Bool} {Q : Value → Shared → Prop} (hz : IsZ s.heap z TI TO old fl) (h : Q (.ref z) s) : wpAny (model prog w) A (pyIter (.ref z)) Q E s := by
  have hT : s.TypeIs (.ref z) "zip" := ⟨_, hz, rfl⟩
  refine wpAny_pyIter_slot hT F.slot_zip_iter (wpAny_call_entry F.slot_zip_iter hT F.entry_zip_iter ?_ (F.args_zip_iter_1 _))
  show wpAny _ _ (ret (.ref z)) _ _ s
  exact wpAny_pure ⟨_, rfl, "zip", _, hT, F.slot_zip_next.lookup, h⟩
/-- how the parts of a zip lie -/
structure ZAp (xs : List Src) (z TI TO : Addr) : Prop where
  ne : xs ≠ []
  ap : Aprt xs
  zn : z ∉ xs.map (·.it)
  zl : ∀ x ∈ xs, x.l ≠ z
  Tn : TO ∉ xs.map (·.it)
  Tl : ∀ x ∈ xs, x.l ≠ TO
  In : TI ∉ xs.map (·.it)
  zT : z ≠ TO
  zI : z ≠ TI
  IT : TI ≠ TO
/-- the zip at its i-th turn -/
def ZSt (xs : List Src) (z TI TO : Addr) (i : Nat) (h : Heap) : Prop := ∃ old fl arr, IsZ h z TI TO old fl ∧ (old = .none ∨ ∃ T : Addr, old = rawInt T) ∧ IsTp h TI (xs.map fun x => Value.ref x.it).toArray ∧ IsTp h TO arr ∧ arr.size = xs.length ∧ ∀ x ∈ xs, x.At h i
theorem letGo_zip {tg : Expr} {z TI TO p : Addr} {old : Value} {fl : Bool} {Q : Unit → Shared → Prop} (hz : IsZ s.heap z TI TO old fl) (h0 : Q () s) (hQ : ∀ h', IsZ h' z TI TO .none fl → Heap.SameBut z s.heap h' → Q () { s with heap := h' }) :
    wpAny (model prog w) A (letOwnedTupleGo tg (.ref z) (.ref p)) Q E s := by
  have key : wpAny (model prog w) A (do
      let o ← load z
      match o.cls, o.data with
      | .type n, .fields vs =>
        if ["enumerate", "zip", "dict_itemiterator", "dict_reverseitemiterator", "odict_iterator", "itertools.zip_longest", "itertools.pairwise"].contains n && vs[0]? == some (rawInt p) then
          rule "for.unpacks-the-owned-tuple"
          updateField z 0 .none
      | _, _ => pure ()) Q E s := by
    refine wpAny_bind (wpAny_load hz ?_)
    show wpAny _ _ (if (["enumerate", "zip", "dict_itemiterator", "dict_reverseitemiterator", "odict_iterator", "itertools.zip_longest", "itertools.pairwise"].contains "zip" &&
      (#[old, .bool fl, .bool false, .ref TI, .ref TO] : Array Value)[0]? == some (rawInt p)) = true then _ else _) Q E s
    split
    · refine wpAny_bind (wpAny_rule ?_)
      show wpAny _ _ (setField (.ref z) 0 .none) Q E s
      exact wpAny_setField_rec hz (by simp) fun h' hz' hs' => hQ h' hz' hs'
    · exact wpAny_pure h0
  unfold letOwnedTupleGo
  cases tg <;> first
    | exact key
    | exact wpAny_pure h0
theorem ZAp.ext {xs : List Src} {z TI TO : Addr} (D : ZAp xs z TI TO) {h h' : Heap} {i : Nat} {old : Value} {fl : Bool} {arr : Array Value} (hz : IsZ h' z TI TO old fl) (ho : old = .none ∨ ∃ T : Addr, old = rawInt T) (hI : IsTp h TI (xs.map fun x => Value.ref x.it).toArray) (hT : IsTp h TO arr) (ha : arr.size = xs.length) (hx : ∀ x ∈ xs, x.At h i) (sb : Heap.SameBut z h h') : ZSt xs z TI TO i h' :=
  ⟨old, fl, arr, hz, ho, (sb.2 _ (Ne.symm D.zI)).trans hI, (sb.2 _ (Ne.symm D.zT)).trans hT, ha, fun x hxm => (hx x hxm).ext (cs := [z]) (fun b o n e => (sb.2 b fun q => n (by simp [q])).trans e) fun q => D.zn (by rw [← List.mem_singleton.mp q]; exact List.mem_map.mpr ⟨x, hxm, rfl⟩)⟩
theorem pyNext_zipN_item {tg : Expr} {xs : List Src} {vs : List Value} {z TI TO : Addr} {i : Nat} {R : Value → Shared → Prop} (D : ZAp xs z TI TO) (st : ZSt xs z TI TO i s.heap) (hv : Has s.heap i xs vs) (hsz : vs.length ≤ sizeLine)
    (hR : ∀ h', ZSt xs z TI TO (i + 1) h' → IsTp h' s.heap.objs.size vs.toArray → ExtL (z :: TI :: TO :: xs.map (·.it)) s.heap h' → R (.ref s.heap.objs.size) { s with heap := h' }) :
    wpAny (model prog w) A (pyNext (.ref z)) (fun r s1 => ∃ u, r = some u ∧ wpAny (model prog w) A (letOwnedTupleGo tg (.ref z) u) (fun _ s2 => R u s2) E s1) E s := by
  obtain ⟨old, fl, arr, hz, ho, hI, hO, ha, hx⟩ := st
  have hTy : s.TypeIs (.ref z) "zip" := ⟨_, hz, rfl⟩
  have tail : ∀ (h' : Heap) (old' : Value) (fl' : Bool) (arr' : Array Value), IsZ h' z TI TO old' fl' → (old' = .none ∨ ∃ T : Addr, old' = rawInt T) → IsTp h' TI (xs.map fun x => Value.ref x.it).toArray → IsTp h' TO arr' → arr'.size = xs.length → (∀ x ∈ xs, x.At h' (i + 1)) → IsTp h' s.heap.objs.size vs.toArray →
      ExtL (z :: TO :: xs.map (·.it)) s.heap h' → ∃ u, some (Value.ref s.heap.objs.size) = some u ∧ wpAny (model prog w) A (letOwnedTupleGo tg (.ref z) u) (fun _ s2 => R u s2) E { s with heap := h' } := fun h' old' fl' arr' a1 a2 a3 a4 a5 a6 a7 a8 => by
    have ex : ∀ {h2 : Heap}, Heap.SameBut z h' h2 → ExtL (z :: TI :: TO :: xs.map (·.it)) s.heap h2 := fun sb b o n e => by
      simp only [List.mem_cons, not_or] at n
      exact (sb.2 b n.1).trans (a8 b o (by simp only [List.mem_cons, not_or]; exact ⟨n.1, n.2.2⟩) e)
    have nT : s.heap.objs.size ≠ z := Nat.ne_of_gt (Heap.lt_size hz)
    refine ⟨_, rfl, letGo_zip a1 (hR h' ⟨old', fl', arr', a1, a2, a3, a4, a5, a6⟩ a7 (ex (Heap.SameBut.refl _ _))) fun h2 hz2 sb => hR h2 (D.ext hz2 (.inl rfl) a3 a4 a5 a6 sb) ((sb.2 _ nT).trans a7) (ex sb)⟩
  have run : ∀ {Bn : Value → Shared → Prop}, wpAny (model prog w) A.in1 (Builtin.«zip.__next__» ⟨[.ref z], []⟩) (fun fin s' => ∃ v, fin = .done (.ret v) ∧ (∃ u, some v = some u ∧ wpAny (model prog w) A (letOwnedTupleGo tg (.ref z) u) (fun _ s2 => R u s2) E s')) (fun e s' => wpAny (model prog w) A (do if ← isInstance e (.type "StopIteration") then pure none else throw e : Sem (Option Value)) (fun r s1 => ∃ u, r = some u ∧ wpAny (model prog w) A (letOwnedTupleGo tg (.ref z) u) (fun _ s2 => R u s2) E s1) E s') s →
      wpAny (model prog w) A (pyNext (.ref z)) (fun r s1 => ∃ u, r = some u ∧ wpAny (model prog w) A (letOwnedTupleGo tg (.ref z) u) (fun _ s2 => R u s2) E s1) E s := fun {_} h => by
    unfold pyNext
    exact wpAny_bind (wpAny_attempt (wpAny_callSpecial?_slot (name := Str.ofString "__next__") hTy F.slot_zip_next
      (wpAny_call_entry F.slot_zip_next hTy F.entry_zip_next (wpAny_mono h (fun fin s' ⟨v, e, q⟩ => ⟨v, e, wpAny_pure q⟩) fun _ _ q => q) (F.args_zip_next_1 _))))
  have el : vs.length = xs.length := (Paired.length hv).symm
  have In : TI ∉ z :: TO :: xs.map (·.it) := by simp only [List.mem_cons, not_or]; exact ⟨Ne.symm D.zI, D.IT, D.In⟩
  have free : IsFree s old → wpAny (model prog w) A (pyNext (.ref z)) (fun r s1 => ∃ u, r = some u ∧ wpAny (model prog w) A (letOwnedTupleGo tg (.ref z) u) (fun _ s2 => R u s2) E s1) E s := fun hf =>
    run (Bn := fun _ _ => True) (zipN_free D.ne D.ap D.zn D.zl D.Tn D.Tl D.zT hz hf hI hO ha hx hv hsz fun h' a1 a2 a3 a4 a5 a6 => tail h' _ _ _ a1 (.inr ⟨_, rfl⟩) (a6 _ _ In hI) a3 (by simp [el]) a2 a4 a6)
  rcases ho with rfl | ⟨T, rfl⟩
  · exact free (.inl rfl)
  · cases hT : s.heap.get? T with
    | none => exact free (.inr ⟨T, rfl, hT⟩)
    | some oT =>
      refine run (Bn := fun _ _ => True) (zipN_held D.ne D.ap D.zn D.zl hz hT hI hx hv hsz fun h' a1 a2 a3 a4 a5 => ?_)
      have a6 : ExtL (z :: TO :: xs.map (·.it)) s.heap h' := fun b o n e => by
        simp only [List.mem_cons, not_or] at n
        exact a5 b o (by simp only [List.mem_cons, not_or]; exact ⟨n.1, n.2.2⟩) e
      refine tail h' _ _ arr a1 (.inr ⟨_, rfl⟩) (a6 _ _ In hI) (a5 _ _ ?_ hO) ha a2 a3 a6
      simp only [List.mem_cons, not_or]; exact ⟨Ne.symm D.zT, D.Tn⟩
theorem pyNext_zipN_end {xs : List Src} {z TI TO : Addr} {i : Nat} {Q : Option Value → Shared → Prop} (hh : A.handled = none) (D : ZAp xs z TI TO) (st : ZSt xs z TI TO i s.heap) (hlen : xs.length ≤ sizeLine) (hon : ∀ x ∈ xs, ∃ items, x.On s.heap items) (hend : ∃ x ∈ xs, ∃ items, x.On s.heap items ∧ items[i]? = none)
    (hQ : ∀ h', ExtL (z :: TI :: TO :: xs.map (·.it)) s.heap h' → Q none { s with heap := h' }) : wpAny (model prog w) A (pyNext (.ref z)) Q E s := by
  obtain ⟨old, fl, arr, hz, ho, hI, hO, ha, hx⟩ := st
  have hTy : s.TypeIs (.ref z) "zip" := ⟨_, hz, rfl⟩
  have run : (∀ {Q' : Fin → Shared → Prop} {E' : Value → Shared → Prop}, (∀ h' e, ExtL (z :: TO :: xs.map (·.it)) s.heap h' → IsStop h' e → E' (.ref e) { s with heap := h' }) → wpAny (model prog w) A.in1 (Builtin.«zip.__next__» ⟨[.ref z], []⟩) Q' E' s) → wpAny (model prog w) A (pyNext (.ref z)) Q E s := fun h => by
    unfold pyNext
    refine wpAny_bind (wpAny_attempt (wpAny_callSpecial?_slot (name := Str.ofString "__next__") hTy F.slot_zip_next
      (wpAny_call_entry F.slot_zip_next hTy F.entry_zip_next (h fun h' e k he => ?_) (F.args_zip_next_1 _))))
    obtain ⟨o, ho, hc⟩ := he
    refine wpAny_bind (wpAny_isInstance (T := "StopIteration") (b := true) ⟨o, ho, hc⟩ isSubtype_stop ?_)
    refine wpAny_pure (hQ _ fun b o n e => k b o ?_ e)
    simp only [List.mem_cons, not_or] at n ⊢
    exact ⟨n.1, n.2.2⟩
  have free : IsFree s old → wpAny (model prog w) A (pyNext (.ref z)) Q E s := fun hf => run fun k => zipN_free_end hh D.ne D.ap D.zn D.zl D.Tn D.Tl D.zT hz hf hI hO (by omega) hx hon hend k
  rcases ho with rfl | ⟨T, rfl⟩
  · exact free (.inl rfl)
  · cases hT : s.heap.get? T with
    | none => exact free (.inr ⟨T, rfl, hT⟩)
    | some oT => exact run fun k => zipN_held_end hh D.ne D.ap D.zn D.zl hz hT hI hx hon hend fun h' e q st => k h' e (fun b o n e => q b o (by simp only [List.mem_cons, not_or] at n ⊢; exact ⟨n.1, n.2.2⟩) e) st
end
end PB

namespace PB
open PySem PySem.Spec PyProof.Rows L2
variable {Ts : List Addr}

abbrev SeqV (K : PySem.W.Frag) (H : Hp) (p : Bool × Addr) (ys : List V) : Prop := if p.1 then SqT K H p.2 ys else SqL K H p.2 ys
/-- the things at ls as they stand at each turn, the items in new tuples -/
def Itzn (K : PySem.W.Frag) (ls : List (Bool × Addr)) : It :=
  ⟨fun i H => ∃ (yss : List (List V)) (xs : List V), Paired (SeqV K H) ls yss ∧ Paired (fun ys y => ys[i]? = some y) yss xs,
    fun i H v H' => ∃ T xs, v = .ref T ∧ H T = none ∧ H' = upd H T (.tup xs) ∧ ∀ yss, Paired (SeqV K H) ls yss → Paired (fun ys y => ys[i]? = some y) yss xs,
    fun i H => ∃ (yss : List (List V)), Paired (SeqV K H) ls yss ∧ ∃ ys ∈ yss, ys.length ≤ i⟩
section
variable {X : Cx} {pins : List (Addr × Obj)} {σ : L2.St} {H : Hp} {s : Shared}
theorem on_of (I : Inv X pins σ H s) {x : Src} {ys : List V} (h : SeqV X.K H (x.t, x.l) ys) : ∃ its : List Value, Vals ys its ∧ x.On s.heap its.toArray := by
  unfold SeqV at h
  unfold Src.On
  split at h <;> rename_i c
  · have c : x.t = true := c
    obtain ⟨its, rv, p, _⟩ := I.tuple h
    refine ⟨its, rv, ?_⟩; rw [if_pos c]; exact p
  · have c : ¬ x.t = true := c
    obtain ⟨its, rv, p, _⟩ := I.list h
    refine ⟨its, rv, ?_⟩; rw [if_neg c]; exact p.isList
theorem seqV_inj (I : Inv X pins σ H s) {p : Bool × Addr} {ys zs : List V} (h : SeqV X.K H p ys) (h' : SeqV X.K H p zs) : ys = zs := by
  unfold SeqV at h h'
  split at h <;> rename_i c
  · rw [if_pos c] at h'; exact I.tuple_inj h h'
  · rw [if_neg c] at h'; exact I.list_inj h h'
theorem seqVs_inj (I : Inv X pins σ H s) : ∀ {ls : List (Bool × Addr)} {yss zss : List (List V)}, Paired (SeqV X.K H) ls yss → Paired (SeqV X.K H) ls zss → yss = zss
  | _, _, _, .nil, .nil => rfl
  | _, _, _, .cons q t, .cons q' t' => by rw [seqV_inj I q q', seqVs_inj I t t']
theorem seqV_at (I : Inv X pins σ H s) {p : Bool × Addr} {ys : List V} (h : SeqV X.K H p ys) : SeqAt s.heap p := by
  unfold SeqV at h
  unfold SeqAt
  split at h <;> rename_i c
  · rw [if_pos c]; obtain ⟨its, rv, q, _⟩ := I.tuple h; exact ⟨_, q⟩
  · rw [if_neg c]; obtain ⟨its, rv, q, _⟩ := I.list h; exact ⟨_, q.isList⟩
/-- the values at i -/
theorem has_of (I : Inv X pins σ H s) {i : Nat} : ∀ {xs : List Src} {yss : List (List V)} {vs : List V}, Paired (SeqV X.K H) (xs.map fun x => (x.t, x.l)) yss → Paired (fun ys y => ys[i]? = some y) yss vs → ∃ us, Has s.heap i xs us ∧ Vals vs us
  | [], _, _, .nil, .nil => ⟨[], .nil, .nil⟩
  | x :: xs, _, _, .cons q t, .cons e r => by
    obtain ⟨us, h1, h2⟩ := has_of I t r
    obtain ⟨its, rv, on⟩ := on_of I q
    obtain ⟨u, hu, ru⟩ := rv.get e
    exact ⟨u :: us, .cons ⟨_, on, by simpa using hu⟩ h1, .cons ru h2⟩
theorem turn_zipN {P : Program} {w : World} {K : PySem.W.Frag} {tg : Expr} {xs : List Src} {z TI TO : Addr} (D : ZAp xs z TI TO) (hlen : xs.length ≤ sizeLine) :
    Turn P w K tg (Itzn K (xs.map fun x => (x.t, x.l))) (z :: TI :: TO :: xs.map (·.it)) z (fun i h => ZSt xs z TI TO i h) where
  mem := by simp
  obj := fun i h st b hb => by
    obtain ⟨old, fl, arr, hz, ho, hI, hO, ha, hx⟩ := st
    rcases List.mem_cons.mp hb with rfl | hb
    · exact ⟨_, hz, fun v q => nomatch q⟩
    rcases List.mem_cons.mp hb with rfl | hb
    · exact ⟨_, hI, fun v q => nomatch q⟩
    rcases List.mem_cons.mp hb with rfl | hb
    · exact ⟨_, hO, fun v q => nomatch q⟩
    obtain ⟨x, hxm, rfl⟩ := List.mem_map.mp hb
    have q := hx x hxm
    unfold Src.At at q
    split at q
    · obtain ⟨o, e, _, d⟩ := q; exact ⟨o, e, fun v q => by rw [d] at q; cases q⟩
    · obtain ⟨o, e, _, d⟩ := q; exact ⟨o, e, fun v q => by rw [d] at q; cases q⟩
  keep := fun i h h' st k => by
    obtain ⟨old, fl, arr, hz, ho, hI, hO, ha, hx⟩ := st
    refine ⟨old, fl, arr, k z (by simp) _ hz, ho, k TI (by simp) _ hI, k TO (by simp) _ hO, ha, fun x hxm => ?_⟩
    have q := hx x hxm
    have m : x.it ∈ z :: TI :: TO :: xs.map (·.it) := by simp only [List.mem_cons]; exact .inr (.inr (.inr (List.mem_map.mpr ⟨x, hxm, rfl⟩)))
    unfold Src.At at q ⊢
    split at q <;> rename_i c
    · rw [if_pos c]; obtain ⟨o, e, r⟩ := q; exact ⟨o, k _ m _ e, r⟩
    · rw [if_neg c]; obtain ⟨o, e, r⟩ := q; exact ⟨o, k _ m _ e, r⟩
  item := by
    intro X hP hw hK hc i pins s σ H E I hf st hg
    subst hP hw hK
    obtain ⟨yss, vs, hy, hv⟩ := hg
    obtain ⟨us, h1, h2⟩ := has_of I hy hv
    have el : us.length = xs.length := (Paired.length h1).symm
    refine pyNext_zipN_item D st h1 (by omega) fun h' st' hT ex => ?_
    have l2 := Vals.length h2
    have new : ObjOk X.prog X.w (upd H s.heap.objs.size (.tup vs)) h' s.heap.objs.size (.tup vs) := ⟨by omega, us, h2, ⟨_, hT, rfl, _, rfl⟩⟩
    have I1 : Inv X pins σ (upd H s.heap.objs.size (.tup vs)) { s with heap := h' } := I.turnedNew (t' := s.toks) (ch := z :: TI :: TO :: xs.map fun (x : Src) => x.it) ex hf (Nat.le_refl _) new
    refine ⟨.ref s.heap.objs.size, _, I1, rfl, ⟨_, vs, rfl, I.hok.fresh (Nat.le_refl _), rfl, fun zss hz => by rw [seqVs_inj I hz hy]; exact hv⟩, st', fun c hcm => ?_⟩
    rw [upd_ne (fun e => ?_)]
    · exact (hf c hcm).1
    · subst e
      obtain ⟨old, fl, arr, hz, ho, hI, hO, ha, hx⟩ := st
      have lt : ∀ {b o}, s.heap.get? b = some o → b ≠ s.heap.objs.size := fun e => Nat.ne_of_lt (Heap.lt_size e)
      rcases List.mem_cons.mp hcm with e | hcm
      · exact lt hz e.symm
      rcases List.mem_cons.mp hcm with e | hcm
      · exact lt hI e.symm
      rcases List.mem_cons.mp hcm with e | hcm
      · exact lt hO e.symm
      obtain ⟨x, hxm, e⟩ := List.mem_map.mp hcm
      have q := hx x hxm
      unfold Src.At at q
      split at q
      · obtain ⟨o, e2, _⟩ := q; exact lt e2 e
      · obtain ⟨o, e2, _⟩ := q; exact lt e2 e
  done := by
    intro X hP hw hK hc i pins s σ H E I hf st hg
    subst hP hw hK
    obtain ⟨yss, hy, ys, hm, hl⟩ := hg
    have on : ∀ (xs : List Src) (yss : List (List V)), Paired (SeqV X.K H) (xs.map fun x => (x.t, x.l)) yss → ∀ x ∈ xs, ∃ items, x.On s.heap items := by
      intro xs
      induction xs with
      | nil => exact fun _ _ _ h => by cases h
      | cons x xs ih =>
        intro yss h y hy
        cases h with
        | cons q t =>
          rcases List.mem_cons.mp hy with rfl | hy
          · obtain ⟨its, _, r⟩ := on_of I q; exact ⟨_, r⟩
          · exact ih _ t y hy
    have en : ∀ (xs : List Src) (yss : List (List V)), Paired (SeqV X.K H) (xs.map fun x => (x.t, x.l)) yss → ys ∈ yss → ∃ x ∈ xs, ∃ items, x.On s.heap items ∧ items[i]? = none := by
      intro xs
      induction xs with
      | nil => intro yss h m; cases h; cases m
      | cons x xs ih =>
        intro yss h m
        cases h with
        | cons q t =>
          rcases List.mem_cons.mp m with rfl | m
          · obtain ⟨its, rv, r⟩ := on_of I q
            have := rv.length
            exact ⟨x, List.mem_cons_self .., _, r, by simp; omega⟩
          · obtain ⟨y, hy, r⟩ := ih _ t m
            exact ⟨y, List.mem_cons_of_mem _ hy, r⟩
    exact pyNext_zipN_end (I.ok.hd hc) D st hlen (on xs yss hy) (en xs yss hy hm) fun h' ex => ⟨rfl, I.turnedL (t' := s.toks) (ch := z :: TI :: TO :: xs.map fun (x : Src) => x.it) ex hf⟩
  self := fun A i s Q E st h => by
    obtain ⟨old, fl, arr, hz, _⟩ := st
    exact pyIter_zipN hz h
end

def iZipN (K : PySem.W.Frag) (ta : TA) : TI := fun σ H R => ta σ H fun vs H1 => ∃ (ls : List (Bool × Addr)) (yss : List (List V)), vs = ls.map (fun p => V.ref p.2) ∧ Paired (SeqV K H1) ls yss ∧ 1 ≤ ls.length ∧ ls.length ≤ 5 ∧ R (Itzn K ls) H1
theorem vals_refs : ∀ {ls : List (Bool × Addr)} {us : List Value}, Vals (ls.map fun p => V.ref p.2) us → us = ls.map fun p => Value.ref p.2
  | [], _, .nil => rfl
  | p :: ls, _, .cons r t => by cases r; rw [vals_refs t]; rfl
section
variable {X : Cx} {tg : Expr} {pins : List (Addr × Obj)} {σ : L2.St} {H : Hp} {s : Shared} {R : It → Hp → Prop}
theorem seqV_lt (I : Inv X pins σ H s) : ∀ {ls : List (Bool × Addr)} {yss : List (List V)}, Paired (SeqV X.K H) ls yss → ∀ p ∈ ls, p.2 < s.heap.objs.size ∧ SeqAt s.heap p
  | _, _, .nil, p, h => by cases h
  | _, _, .cons q t, p, h => by
    rcases List.mem_cons.mp h with rfl | h
    · have a := seqV_at I q
      refine ⟨?_, a⟩
      unfold SeqAt at a
      split at a
      · obtain ⟨_, o, e, _⟩ := a; exact Heap.lt_size e
      · obtain ⟨_, o, e, _⟩ := a; exact Heap.lt_size e
    · exact seqV_lt I t p h
theorem zip_made (I : Inv X pins σ H s) {ls : List (Bool × Addr)} {yss : List (List V)} (hq : Paired (SeqV X.K H) ls yss) (h1 : 1 ≤ ls.length) (h5 : ls.length ≤ 5) (q : R (Itzn X.K ls) H) :
    wpAny (model X.prog X.w) X.A (call (.type "zip") (ls.map fun p => Value.ref p.2)) (fun v s1 => wpAny (model X.prog X.w) X.A (pyIter v) (PIE X pins σ tg R) X.xe s1) X.xe s := by
  have lt := seqV_lt I hq
  refine call_zipN h1 h5 (fun p hp => (lt p hp).2) fun h' xs z TI TO zn k => pyIter_zipN zn.zz ?_
  have I2 : Inv X pins σ H { s with heap := h' } := I.kept (t' := s.toks) k
  have ll : ∀ x ∈ xs, x.l < s.heap.objs.size := fun x hx => by
    have : (x.t, x.l) ∈ ls := by rw [← zn.src]; exact List.mem_map.mpr ⟨x, hx, rfl⟩
    exact (lt _ this).1
  have el : xs.length = ls.length := by rw [← zn.src, List.length_map]
  have gT := zn.gn
  have l1 := zn.l1
  have l2 := zn.l2
  have D : ZAp xs z TI TO := by
    refine ⟨fun e => ?_, ⟨zn.nd, fun x hx y hy e => ?_⟩, fun e => ?_, fun x hx e => ?_, fun e => ?_, fun x hx e => ?_, fun e => ?_, Nat.ne_of_gt l2, Nat.ne_of_gt (Nat.lt_trans l1 l2), Nat.ne_of_lt l1⟩
    · subst e; simp at el; omega
    · exact absurd (e ▸ ll x hx) (Nat.not_lt.mpr (zn.ge y hy))
    · obtain ⟨x, hx, e⟩ := List.mem_map.mp e
      exact absurd (e ▸ zn.lt x hx) (Nat.not_lt.mpr (Nat.le_of_lt (Nat.lt_trans l1 l2)))
    · exact absurd (e ▸ ll x hx) (Nat.not_lt.mpr (Nat.le_trans gT (Nat.le_of_lt (Nat.lt_trans l1 l2))))
    · obtain ⟨x, hx, e⟩ := List.mem_map.mp e
      exact absurd (e ▸ zn.lt x hx) (Nat.not_lt.mpr (Nat.le_of_lt l1))
    · exact absurd (e ▸ ll x hx) (Nat.not_lt.mpr (Nat.le_trans gT (Nat.le_of_lt l1)))
    · obtain ⟨x, hx, e⟩ := List.mem_map.mp e
      exact absurd (e ▸ zn.lt x hx) (Nat.lt_irrefl _)
  refine ⟨z, z :: TI :: TO :: xs.map (·.it), _, _, H, rfl, I2, turn_zipN D (by rw [sizeLine_eq]; omega), ⟨.none, false, _, zn.zz, .inl rfl, zn.ti, zn.to, by simp, zn.at_⟩, fun c hc => ?_, by rw [zn.src]; exact q⟩
  have hle : s.heap.objs.size ≤ c := by
    rcases List.mem_cons.mp hc with rfl | hc
    · exact Nat.le_trans gT (Nat.le_of_lt (Nat.lt_trans l1 l2))
    rcases List.mem_cons.mp hc with rfl | hc
    · exact gT
    rcases List.mem_cons.mp hc with rfl | hc
    · exact Nat.le_trans gT (Nat.le_of_lt l1)
    obtain ⟨x, hx, rfl⟩ := List.mem_map.mp hc
    exact zn.ge x hx
  exact I.fpOk hle (I.hok.fresh hle)
theorem pi_zipN {e : Expr} {es : List Expr} {ta : TA} {p pos : Pos} (hg : Gl X "zip") (hm : X.mg "zip" = none) (ha : PA X (e :: es) ta) (hs : starEach (e :: es) X.env = (false, eval e X.env) :: starEach es X.env) (hpl : (backTo pos (starEach es X.env)).any (·.1) = false) :
    PI X tg (.Call (.Name "zip" p) (e :: es) [] pos) (iZipN X.K ta) := by
  refine ⟨fun pins s σ H R I h => ?_⟩
  refine Call_ (ld_blt I hg hm PyProof.Rows.boot_zip (PyProof.Rows.callWith_type1 (thn (ha.run pos pins s σ H _ I h) fun us s1 ⟨vs, H1, I1, r1, q1⟩ => ?_) hs hpl))
  obtain ⟨ls, yss, rfl, hq, h1, h5, q⟩ := q1
  rw [vals_refs r1]
  exact zip_made I1 hq h1 h5 q
end
end PB

namespace PB
open PySem PySem.Spec PyProof.Rows L2
variable {Ts : List Addr}

theorem callWith_typeS {M : Model} {A : Around} {E : Value → Shared → Prop} {s : Shared} {pos : Pos} {T : String} {args : List (Bool × Sem Value)} {Q : Value → Shared → Prop} (hst : args.any (·.1) = true)
    (h : wpAny M A (evalArgs (.type T) true args []) (fun a s₁ => wpAny M A (call (.type T) ([] ++ a.pos) a.kw) Q E s₁) E s) : wpAny M A (callWith pos (.type T) [] args []) Q E s := by
  unfold callWith
  refine wpAny_bind (wpAny_holding (wpAny_mono h (fun a s₁ h₁ => wpAny_bind (wpAny_standAt ?_)) fun _ _ x => x))
  simp only [hst, Bool.true_or]
  refine wpAny_bind (wpAny_pure ?_)
  have tail : ∀ {t : Sem Value}, wpAny M A t Q E s₁ → wpAny M A (t >>= fun r => holding [r] point >>= fun _ => pure r) Q E s₁ :=
    fun ht => wpAny_bind (wpAny_mono ht (fun r s₂ hr => wpAny_bind (wpAny_holding (wpAny_point (wpAny_pure hr)))) fun _ _ x => x)
  have marked (mk : Value) : wpAny M A (callMarked mk (.type T) ([] ++ a.pos) a.kw) Q E s₁ := by unfold callMarked; exact Calls.wpAny_keep h₁
  first
    | exact tail (marked _)
    | exact tail (wpAny_operating h₁)
    | exact wpAny_operating h₁
    | exact marked _
    | (dsimp only; exact tail (marked _))
section
variable {X : Cx} {E : XW} {tg : Expr}
def iZipS (K : PySem.W.Frag) (te : TE) : TI := fun σ H R => te σ H fun y H1 => ∃ (a : Addr) (ls : List (Bool × Addr)) (yss : List (List V)), y = .ref a ∧ (SqT K H1 a (ls.map fun p => V.ref p.2) ∨ SqL K H1 a (ls.map fun p => V.ref p.2)) ∧ Paired (SeqV K H1) ls yss ∧ 1 ≤ ls.length ∧ ls.length ≤ 5 ∧ R (Itzn K ls) H1
theorem pi_zipS {e : Expr} {te : TE} {p sp_ pos : Pos} (hg : Gl X "zip") (hm : X.mg "zip" = none) (he : PE X e te) : PI X tg (.Call (.Name "zip" p) [.Starred e sp_] [] pos) (iZipS X.K te) := by
  refine ⟨fun pins s σ H R I h => ?_⟩
  refine Call_ (ld_blt I hg hm PyProof.Rows.boot_zip (callWith_typeS rfl ?_))
  refine PySem.W.ks_lone (thn (he.run pins s σ H _ I h) fun v s1 ⟨y, H1, I1, ry, a, ls, yss, ey, hx, hq, h1, h5, q⟩ => ?_)
  subst ey
  obtain rfl : v = Value.ref a := ry
  refine StX.star_any I1 hx fun us s2 I2 rv => ?_
  rw [vals_refs rv]
  exact zip_made I2 hq h1 h5 q
end

def zipN : List (List D) → List (List D)
  | [] => []
  | [ds] => ds.map fun d => [d]
  | ds :: e :: r => List.zipWith (· :: ·) ds (zipN (e :: r))
theorem zipN_get {i : Nat} : ∀ {dss : List (List D)} {row : List D}, (zipN dss)[i]? = some row → Paired (fun ds d => ds[i]? = some d) dss row
  | [], row, h => by simp [zipN] at h
  | [ds], row, h => by
    simp only [zipN, List.getElem?_map, Option.map_eq_some_iff] at h
    obtain ⟨d, e, rfl⟩ := h
    exact .cons e .nil
  | ds :: e :: r, row, h => by
    simp only [zipN, List.getElem?_zipWith] at h
    cases h1 : ds[i]? with
    | none => rw [h1] at h; cases h
    | some d =>
      cases h2 : (zipN (e :: r))[i]? with
      | none => rw [h1, h2] at h; cases h
      | some q =>
        rw [h1, h2] at h
        cases h
        exact .cons h1 (zipN_get h2)
theorem zipN_end {i : Nat} : ∀ {dss : List (List D)}, dss ≠ [] → (zipN dss).length ≤ i → ∃ ds ∈ dss, ds.length ≤ i
  | [], h, _ => absurd rfl h
  | [ds], _, h => ⟨ds, List.mem_cons_self .., by simpa [zipN] using h⟩
  | ds :: e :: r, _, h => by
    simp only [zipN, List.length_zipWith] at h
    by_cases c : ds.length ≤ i
    · exact ⟨ds, List.mem_cons_self .., c⟩
    · obtain ⟨x, hx, hl⟩ := zipN_end (dss := e :: r) (i := i) (by simp) (by omega)
      exact ⟨x, List.mem_cons_of_mem _ hx, hl⟩
theorem zipN_len : ∀ {dss : List (List D)} {ds : List D}, ds ∈ dss → (zipN dss).length ≤ ds.length
  | [], _, h => by cases h
  | [d], ds, h => by rw [List.mem_singleton.mp h]; simp [zipN]
  | d :: e :: r, ds, h => by
    simp only [zipN, List.length_zipWith]
    rcases List.mem_cons.mp h with rfl | h
    · omega
    · have := zipN_len h; omega
section
variable {K : PySem.W.Frag} {hs : List Addr} {S : Sto} {mu : List Addr} {H : Hp}
/-- p holds the data ds -/
def SrcD (K : PySem.W.Frag) (lv : Addr → Prop) (H : Hp) (p : Bool × Addr) (ds : List D) : Prop := if p.1 then DenD K lv H (.tuple ds) (.ref p.2) else DenD K lv H (.list ds) (.ref p.2)
theorem SrcD.keep {lv lv' : Addr → Prop} {H' : Hp} (k : Keep K lv lv' H H') {p : Bool × Addr} {ds : List D} (h : SrcD K lv H p ds) : SrcD K lv' H' p ds := by
  unfold SrcD at *
  split <;> rename_i c
  · rw [if_pos c] at h; exact DenD.keep k _ _ h
  · rw [if_neg c] at h; exact DenD.keep k _ _ h
theorem SrcD.at_ {lv : Addr → Prop} {p : Bool × Addr} {ds : List D} (h : SrcD K lv H p ds) : ∃ vs, SeqV K H p vs ∧ DenL K lv H ds vs ∧ ds.length ≤ sizeLine := by
  unfold SrcD at h
  unfold SeqV
  split at h <;> rename_i c
  · unfold DenD at h
    obtain ⟨a, vs, e, q, l, r⟩ := h
    cases e
    refine ⟨vs, ?_, r, l⟩
    rw [if_pos c]; exact q
  · unfold DenD at h
    obtain ⟨a, vs, e, q, n, l, r⟩ := h
    cases e
    refine ⟨vs, ?_, r, l⟩
    rw [if_neg c]; exact .inl (.inl q)
theorem srcs_at {lv : Addr → Prop} : ∀ {ls : List (Bool × Addr)} {dss : List (List D)}, Paired (SrcD K lv H) ls dss → ∃ vss, Paired (SeqV K H) ls vss ∧ Paired (DenL K lv H) dss vss
  | _, _, .nil => ⟨[], .nil, .nil⟩
  | _, _, .cons q t => by
    obtain ⟨vs, a, b, _⟩ := q.at_
    obtain ⟨vss, c, d⟩ := srcs_at t
    exact ⟨vs :: vss, .cons a c, .cons b d⟩
theorem row_den {lv : Addr → Prop} {i : Nat} : ∀ {dss : List (List D)} {vss : List (List V)} {row : List D}, Paired (DenL K lv H) dss vss → Paired (fun ds d => ds[i]? = some d) dss row → ∃ xs, Paired (fun (ys : List V) y => ys[i]? = some y) vss xs ∧ DenL K lv H row xs
  | _, _, _, .nil, .nil => ⟨[], .nil, by unfold DenL; rfl⟩
  | _, _, _, .cons q t, .cons e r => by
    obtain ⟨v, ev, dv⟩ := DenL.get q e
    obtain ⟨xs, h1, h2⟩ := row_den t r
    refine ⟨v :: xs, .cons ev h1, ?_⟩
    unfold DenL
    exact ⟨v, xs, rfl, dv, h2⟩
theorem rows_inj {i : Nat} : ∀ {vss : List (List V)} {xs ys : List V}, Paired (fun (ys : List V) y => ys[i]? = some y) vss xs → Paired (fun (ys : List V) y => ys[i]? = some y) vss ys → xs = ys
  | _, _, _, .nil, .nil => rfl
  | _, _, _, .cons a t, .cons b r => by rw [a] at b; cases b; rw [rows_inj t r]
def rowX (row : List D) : Xv := .d (.tuple row)
theorem it_zip {ls : List (Bool × Addr)} {dss : List (List D)} (h : Paired (SrcD K (live S mu hs) H) ls dss) (h1 : 1 ≤ ls.length) (h5 : ls.length ≤ 5) : ItOk K hs ((zipN dss).map rowX) S mu H (Itzn K ls) := by
  have el : ls.length = dss.length := Paired.length h
  have ne : dss ≠ [] := fun e => by subst e; rw [List.length_nil] at el; omega
  have hz : (zipN dss).length ≤ sizeLine := by
    obtain ⟨ds, hd⟩ := List.exists_mem_of_ne_nil _ ne
    have hl : ds.length ≤ sizeLine := by
      have key : ∀ {ls : List (Bool × Addr)} {dss : List (List D)}, Paired (SrcD K (live S mu hs) H) ls dss → ∀ ds ∈ dss, ds.length ≤ sizeLine := by
        intro ls dss h
        induction h with
        | nil => exact fun _ h => by cases h
        | cons q t ih =>
          intro ds hd
          rcases List.mem_cons.mp hd with rfl | hd
          · exact q.at_.choose_spec.2.2
          · exact ih ds hd
      exact key h ds hd
    exact Nat.le_trans (zipN_len hd) hl
  refine ⟨by simpa using hz, fun Ts ex S1 mu1 H1 hx g s => ?_⟩
  have k := g.keepX (K := K) hx
  have h' := Paired.mapP h fun _ _ q => SrcD.keep k q
  obtain ⟨vss, a, b⟩ := srcs_at h'
  rw [List.length_map]
  refine ⟨fun i hi => ?_, ?_, fun i v H' hi y => ?_⟩
  · obtain ⟨xs, c, d⟩ := row_den b (zipN_get (List.getElem?_eq_getElem hi))
    exact ⟨vss, xs, a, c⟩
  · refine ⟨vss, a, ?_⟩
    obtain ⟨ds, hd, hl⟩ := zipN_end ne (Nat.le_refl (zipN dss).length)
    have key : ∀ {dss : List (List D)} {vss : List (List V)} {lv : Addr → Prop} {n : Nat}, Paired (DenL K lv H1) dss vss → ∀ ds ∈ dss, ds.length ≤ n → ∃ vs ∈ vss, vs.length ≤ n := by
      intro dss vss lv n h
      induction h with
      | nil => exact fun _ h => by cases h
      | cons q t ih =>
        intro ds hd hl
        rcases List.mem_cons.mp hd with rfl | hd
        · exact ⟨_, List.mem_cons_self .., by rw [← q.length]; exact hl⟩
        · obtain ⟨vs, hv, r⟩ := ih ds hd hl
          exact ⟨vs, List.mem_cons_of_mem _ hv, r⟩
    exact key b ds hd hl
  · obtain ⟨T, xs, rfl, hT, rfl, hu⟩ := y
    obtain ⟨xs', c, d⟩ := row_den b (zipN_get (List.getElem?_eq_getElem hi))
    cases rows_inj (hu vss a) c
    have g2 := Go.laid (K := K) s hT (.tup xs)
    refine ⟨g2, s.laid hT _, .d (.tuple (zipN dss)[i]), by simp [rowX, hi], ?_⟩
    unfold DenX DenD
    refine ⟨T, xs, rfl, .inl (.inl upd_same), ?_, DenL.keep g2.keep _ _ d⟩
    have l1 := Paired.length c
    have l2 := Paired.length a
    have l3 := d.length
    rw [sizeLine_eq]; omega
end
/-- what is zipped: tuples and lists of data -/
def srcX : Xv → Option (Bool × List D)
  | .d (.tuple ds) => some (true, ds)
  | .d (.list ds) => some (false, ds)
  | _ => none
def srcXs : List Xv → Option (List (List D))
  | [] => some []
  | x :: xs => match srcX x, srcXs xs with
    | some p, some r => some (p.2 :: r)
    | _, _ => none
def zipIt (xs : List Xv) (S : Sto) : R (List Xv) := match srcXs xs with
  | some dss => if 1 ≤ dss.length ∧ dss.length ≤ 5 then .ok ((zipN dss).map rowX) S else .bad
  | none => .bad
def pZip (q : Mes) : Mes := fun ρ S => (q ρ S).bind zipIt
/-- zip(*e) of data -/
def starIt (x : Xv) (S : Sto) : R (List Xv) := match x with
  | .d (.tuple ds) => zipIt (ds.map .d) S
  | .d (.list ds) => zipIt (ds.map .d) S
  | _ => .bad
def pZipS (p : Me) : Mes := fun ρ S => (p ρ S).bind starIt
theorem srcXs_den {K : PySem.W.Frag} {lv : Addr → Prop} {mu : List Addr} {H : Hp} : ∀ {xs : List Xv} {vs : List V} {dss : List (List D)}, DenXs K lv mu H xs vs → srcXs xs = some dss → ∃ ls : List (Bool × Addr), vs = ls.map (fun p => V.ref p.2) ∧ Paired (SrcD K lv H) ls dss
  | [], _, dss, .nil, e => by cases e; exact ⟨[], rfl, .nil⟩
  | x :: xs, _, dss, .cons q t, e => by
    simp only [srcXs] at e
    split at e
    · rename_i p r e1 e2
      cases e
      obtain ⟨ls, rfl, h⟩ := srcXs_den t e2
      cases x with
      | r n => cases e1
      | d d =>
        cases d with
        | tuple ds =>
          cases e1
          have q : DenD K lv H (.tuple ds) _ := q
          obtain ⟨a, vs, rfl, q2⟩ := den_tuple (mu := mu) q
          exact ⟨(true, a) :: ls, rfl, .cons (by unfold SrcD; rw [if_pos rfl]; exact q) h⟩
        | list ds =>
          cases e1
          have q : DenD K lv H (.list ds) _ := q
          obtain ⟨a, vs, rfl, q2⟩ := den_list (mu := mu) q
          exact ⟨(false, a) :: ls, rfl, .cons (by unfold SrcD; rw [if_neg Bool.false_ne_true]; exact q) h⟩
        | _ => cases e1
    · cases e
section
variable {X : Cx} {E : XW} {tg : Expr}
theorem zip_red {K : PySem.W.Frag} {E : XW} {S : Sto} {mu hs : List Addr} {H : Hp} {R : It → Hp → Prop} {xs : List Xv} {vs : List V} (s : StoOk K E.ts S mu hs H) (hv : DenXs K (live S mu hs) mu H xs vs)
    (z : Post K E S mu hs H (fun xs S' mu' H' => ∀ J, ItOk K hs xs S' mu' H' J → R J H') (zipIt xs S)) :
    ∃ (ls : List (Bool × Addr)) (yss : List (List V)), vs = ls.map (fun p => V.ref p.2) ∧ Paired (SeqV K H) ls yss ∧ 1 ≤ ls.length ∧ ls.length ≤ 5 ∧ R (Itzn K ls) H := by
  unfold zipIt at z
  cases e : srcXs xs with
  | none => rw [e] at z; exact z.elim
  | some dss =>
    rw [e] at z
    dsimp only at z
    split at z
    · rename_i hc
      obtain ⟨ls, rfl, h⟩ := srcXs_den hv e
      have el := Paired.length h
      obtain ⟨yss, a, _⟩ := srcs_at h
      exact ⟨ls, yss, rfl, a, by omega, by omega, z.here s _ (it_zip h (by omega) (by omega))⟩
    · exact z.elim
theorem i_zip {e : Expr} {es : List Expr} {q : Mes} {p pos : Pos} (hg : Gl X "zip") (hm : X.mg "zip" = none) (ha : PA X (e :: es) (tDs X.K E q)) (hs : starEach (e :: es) X.env = (false, eval e X.env) :: starEach es X.env) (hpl : (backTo pos (starEach es X.env)).any (·.1) = false) :
    PI X tg (.Call (.Name "zip" p) (e :: es) [] pos) (iD X.K E (pZip q)) := PI.imp (pi_zipN hg hm ha hs hpl) fun σ H R h => by
  obtain ⟨ρ, S, mu, hs, en, s, h⟩ := h
  refine ⟨ρ, S, mu, hs, en, s, Post.mono (Post.bind h) fun xs S1 mu1 H1 g1 s1 z vs hv => ?_⟩
  exact zip_red s1 hv z.2.2
theorem i_zipS {e : Expr} {p : Me} {pp sp_ pos : Pos} (hg : Gl X "zip") (hm : X.mg "zip" = none) (he : PE X e (tD X.K E p)) : PI X tg (.Call (.Name "zip" pp) [.Starred e sp_] [] pos) (iD X.K E (pZipS p)) := PI.imp (pi_zipS hg hm he) fun σ H R h => by
  obtain ⟨ρ, S, mu, hs, en, s, h⟩ := h
  refine ⟨ρ, S, mu, hs, en, s, Post.mono (Post.bind h) fun x S1 mu1 H1 g1 s1 z v hv => ?_⟩
  obtain ⟨_, _, z⟩ := z
  cases x with
  | r n => exact z.elim
  | d d =>
    cases d with
    | tuple ds =>
      obtain ⟨a, vs, rfl, q, l, r⟩ := den_tuple hv
      obtain ⟨ls, yss, rfl, h2, h3, h4, h5⟩ := zip_red s1 (DenL.xs r) z
      exact ⟨a, ls, yss, rfl, .inl q, h2, h3, h4, h5⟩
    | list ds =>
      obtain ⟨a, vs, rfl, q, n, l, r⟩ := den_list hv
      obtain ⟨ls, yss, rfl, h2, h3, h4, h5⟩ := zip_red s1 (DenL.xs r) z
      exact ⟨a, ls, yss, rfl, .inr (.inl (.inl q)), h2, h3, h4, h5⟩
    | _ => exact z.elim
end
end PB

namespace PB
open PySem PySem.Spec PyProof.Rows L2
variable {Ts : List Addr}

section
variable {prog : Program} {w : World} {A : Around} {E : Value → Shared → Prop} {s : Shared}
theorem enum_next {e : Addr} {x : Src} {i : Nat} {items : Array Value} {v old : Value} {Q : Value → Shared → Prop}
    (he : IsEnum s.heap e x.it i old) (hit : x.At s.heap i) (hl : x.On s.heap items) (hx : items[i]? = some v) (hne : e ≠ x.it)
    (hQ : ∀ h', IsEnumOut h' e x.it ((i : Int) + 1) v s.heap.objs.size → x.At h' (i + 1) →
      h'.get? s.heap.objs.size = some { cls := .type "tuple", data := .seq #[.int i s.toks, v] } → h'.objs.size = s.heap.objs.size + 1 →
      (∀ b o, b ≠ e → b ≠ x.it → s.heap.get? b = some o → h'.get? b = some o) → Q (.ref s.heap.objs.size) { s with heap := h', toks := s.toks + 1 }) :
    wpAny (model prog w) A (Builtin.«enumerate.__next__» ⟨[.ref e], []⟩) (fun fin s' => ∃ v, fin = .done (.ret v) ∧ Q v s') E s := by
  obtain ⟨hp, g, d, tk, os⟩ := s
  show wpAny _ _ (field (.ref e) 2 >>= _) _ _ _
  refine wpAny_bind (wpAny_field he rfl (x := .ref x.it) rfl ?_)
  refine wpAny_bind (nextOf_item hit hl hx fun h₁ hit₁ b₁ => ?_)
  have hs₁ : Heap.SameBut x.it hp h₁ := ⟨b₁.1, fun b n => b₁.2 b fun q => n (List.mem_singleton.mp q)⟩
  have he₁ : IsEnum h₁ e x.it i old := (hs₁.2 e hne).trans he
  show wpAny _ _ (field (.ref e) 3 >>= _) _ _ ⟨h₁, g, d, tk, os⟩
  refine wpAny_bind (wpAny_field he₁ rfl (x := rawInt i) rfl ?_)
  show wpAny _ _ (field (.ref e) 4 >>= _) _ _ ⟨h₁, g, d, tk, os⟩
  refine wpAny_bind (wpAny_field he₁ rfl (x := .none) rfl ?_)
  show wpAny _ _ (mkInt i >>= _) _ _ ⟨h₁, g, d, tk, os⟩
  refine wpAny_bind (wpAny_mkInt ?_)
  show wpAny _ _ (setField (.ref e) 3 (rawInt ((i : Int) + 1)) >>= _) _ _ ⟨h₁, g, d, tk + 1, os⟩
  refine wpAny_bind (wpAny_setField_rec he₁ (by simp) fun h₂ he₂ hs₂ => ?_)
  replace hs₂ : Heap.SameBut e h₁ h₂ := hs₂
  replace he₂ : IsEnum h₂ e x.it ((i : Int) + 1) old := he₂
  show wpAny _ _ (setField (.ref e) 4 .none >>= _) _ _ ⟨h₂, g, d, tk + 1, os⟩
  refine wpAny_bind (wpAny_setField_rec he₂ (by simp) fun h₃ he₃ hs₃ => ?_)
  replace hs₃ : Heap.SameBut e h₂ h₃ := hs₃
  replace he₃ : IsEnum h₃ e x.it ((i : Int) + 1) old := he₃
  show wpAny _ _ (newTuple [.int i tk, v] >>= _) _ _ ⟨h₃, g, d, tk + 1, os⟩
  refine wpAny_bind (wpAny_newTuple ?_)
  have he₄ : IsEnum (h₃.push { cls := .type "tuple", data := .seq #[.int i tk, v] }) e x.it ((i : Int) + 1) old := Heap.get?_push_of_some _ he₃
  generalize hh₄ : h₃.push { cls := .type "tuple", data := .seq #[.int i tk, v] } = h₄ at he₄
  have hsz : h₃.objs.size = hp.objs.size := by rw [hs₃.1, hs₂.1, hs₁.1]
  have hel : e < hp.objs.size := Heap.lt_size he
  have ht₄ : h₄.get? hp.objs.size = some { cls := .type "tuple", data := .seq #[.int i tk, v] } := by rw [← hh₄, ← hsz]; exact Heap.get?_push_size _ rfl
  have hz₄ : h₄.objs.size = hp.objs.size + 1 := by rw [← hh₄, Heap.size_push, hsz]
  have up4 : ∀ b o, b ≠ e → h₁.get? b = some o → h₄.get? b = some o := fun b o hbe hb => by
    rw [← hh₄]; exact Heap.get?_push_of_some _ (hs₃.extBut b o hbe (hs₂.extBut b o hbe hb))
  have hk₄ : ∀ b o, b ≠ e → b ≠ x.it → hp.get? b = some o → h₄.get? b = some o := fun b o hbe hbi hb => up4 b o hbe (hs₁.extBut b o hbi hb)
  have ne1 : x.it ∉ [e] := fun q => hne (List.mem_singleton.mp q).symm
  have hit₄ : x.At h₄ (i + 1) := hit₁.ext (cs := [e]) (fun b o n q => up4 b o (fun z => n (by simp [z])) q) ne1
  show wpAny _ _ (Builtin.SmallTypes.ownedTupleIsFree (.ref e) >>= _) _ _ ⟨h₄, g, d, tk + 1, os⟩
  rw [hsz]
  clear hh₄ he₃ hs₃ he₂ hs₂ he₁ hs₁ hit₁ hsz up4 b₁ h₃ h₂ h₁
  refine wpAny_bind (free_ok (s := ⟨h₄, g, d, tk + 1, os⟩) he₄ rfl (.inl rfl) ?_)
  · simp only [if_true]
    refine wpAny_bind (wpAny_rule ?_)
    refine wpAny_bind (wpAny_field he₄ rfl (x := old) rfl ?_)
    refine wpAny_bind (wpAny_setField_rec he₄ (by simp) fun h₅ he₅ hs₅ => ?_)
    replace hs₅ : Heap.SameBut e h₄ h₅ := hs₅
    replace he₅ : IsEnum h₅ e x.it ((i : Int) + 1) v := he₅
    show wpAny _ _ (Builtin.SmallTypes.ownedTupleHandOut (.ref e) (.ref hp.objs.size) >>= _) _ _ ⟨h₅, g, d, tk + 1, os⟩
    refine wpAny_bind ?_
    · unfold Builtin.SmallTypes.ownedTupleHandOut
      refine wpAny_bind (wpAny_setField_rec he₅ (by simp) fun h₆ he₆ hs₆ => ?_)
      replace hs₆ : Heap.SameBut e h₅ h₆ := hs₆
      replace he₆ : IsEnumOut h₆ e x.it ((i : Int) + 1) v hp.objs.size := he₆
      refine wpAny_setField_rec he₆ (by simp) fun h₇ he₇ hs₇ => ?_
      replace hs₇ : Heap.SameBut e h₆ h₇ := hs₇
      replace he₇ : IsEnumOut h₇ e x.it ((i : Int) + 1) v hp.objs.size := he₇
      have up : ∀ b o, b ≠ e → h₄.get? b = some o → h₇.get? b = some o := fun b o n q => hs₇.extBut b o n (hs₆.extBut b o n (hs₅.extBut b o n q))
      refine wpAny_bind (wpAny_letGo (wpAny_pure ⟨_, rfl, hQ h₇ he₇ (hit₄.ext (cs := [e]) (fun b o n q => up b o (fun z => n (by simp [z])) q) ne1) (up _ _ (Nat.ne_of_gt hel) ht₄) ?_ fun b o hbe hbi hb => up b o hbe (hk₄ b o hbe hbi hb)⟩))
      rw [hs₇.1, hs₆.1, hs₅.1, hz₄]
theorem pyNext_enum_item {e : Addr} {x : Src} {i : Nat} {items : Array Value} {v old : Value} {Q : Option Value → Shared → Prop}
    (he : IsEnum s.heap e x.it i old) (hit : x.At s.heap i) (hl : x.On s.heap items) (hx : items[i]? = some v) (hne : e ≠ x.it)
    (hQ : ∀ h', IsEnumOut h' e x.it ((i : Int) + 1) v s.heap.objs.size → x.At h' (i + 1) →
      h'.get? s.heap.objs.size = some { cls := .type "tuple", data := .seq #[.int i s.toks, v] } → h'.objs.size = s.heap.objs.size + 1 →
      (∀ b o, b ≠ e → b ≠ x.it → s.heap.get? b = some o → h'.get? b = some o) → Q (some (.ref s.heap.objs.size)) { s with heap := h', toks := s.toks + 1 }) :
    wpAny (model prog w) A (pyNext (.ref e)) Q E s := by
  have hT : s.TypeIs (.ref e) "enumerate" := ⟨_, he, rfl⟩
  unfold pyNext
  exact wpAny_bind (wpAny_attempt (wpAny_callSpecial?_slot (name := Str.ofString "__next__") hT F.slot_enumerate_next
    (wpAny_call_entry F.slot_enumerate_next hT F.entry_enumerate_next
      (enum_next he hit hl hx hne fun h' a b c d k => wpAny_pure (hQ h' a b c d k)) (F.args_enumerate_next_1 _))))
theorem pyNext_enum_end {e : Addr} {x : Src} {i : Nat} {items : Array Value} {old : Value} {Q : Option Value → Shared → Prop} (hh : A.handled = none)
    (he : IsEnum s.heap e x.it i old) (hit : x.At s.heap i) (hl : x.On s.heap items) (hx : items[i]? = none)
    (hQ : ∀ h', ExtL [x.it] s.heap h' → Q none { s with heap := h' }) : wpAny (model prog w) A (pyNext (.ref e)) Q E s := by
  have hT : s.TypeIs (.ref e) "enumerate" := ⟨_, he, rfl⟩
  unfold pyNext
  refine wpAny_bind (wpAny_attempt (wpAny_callSpecial?_slot (name := Str.ofString "__next__") hT F.slot_enumerate_next
    (wpAny_call_entry F.slot_enumerate_next hT F.entry_enumerate_next ?_ (F.args_enumerate_next_1 _))))
  show wpAny _ _ (field (.ref e) 2 >>= _) _ _ _
  refine wpAny_bind (wpAny_field he rfl (x := .ref x.it) rfl ?_)
  refine wpAny_bind (nextOf_end hh hit hl hx fun h' y he' hx' => ?_)
  obtain ⟨o, ho, hc⟩ := hx'
  refine wpAny_bind (wpAny_isInstance (T := "StopIteration") (b := true) ⟨o, ho, hc⟩ isSubtype_stop ?_)
  exact wpAny_pure (hQ _ he')
/-- what enumerate(..) leaves -/
structure ENew (p : Bool × Addr) (n : Nat) (e it : Addr) (h : Heap) : Prop where
  en : IsEnum h e it 0 .none
  at_ : (⟨p.1, it, p.2⟩ : Src).At h 0
  ge : n ≤ it
  gt : it < e
theorem meets_enum_new (p : Bool × Addr) : Meets (Builtin.«enumerate.__new__» ⟨[.type "enumerate", .ref p.2], []⟩) (fun _ R s => SeqAt s.heap p ∧
    ∀ h' e it, ENew p s.heap.objs.size e it h' → (∀ b o, s.heap.get? b = some o → h'.get? b = some o) → R (.ok (.ret (.ref e))) { s with heap := h' }) := .of_wp fun prog w A R s h => by
  obtain ⟨hp, g, d, tk, os⟩ := s
  obtain ⟨h1, h⟩ := h
  have hsub := sub_enumerate
  have q : ∀ {A' : Around} {E : Value → Shared → Prop} {Q : Value → Shared → Prop}, (∀ h', (⟨p.1, hp.objs.size, p.2⟩ : Src).At h' 0 → h'.objs.size = hp.objs.size + 1 → (∀ b o, hp.get? b = some o → h'.get? b = some o) → Q (.ref hp.objs.size) ⟨h', g, d, tk, os⟩) →
    wpAny (model prog w) A' (pyIter (.ref p.2)) Q E ⟨hp, g, d, tk, os⟩ := fun k => pyIter_ok h1 k
  have fin : ∀ h', (⟨p.1, hp.objs.size, p.2⟩ : Src).At h' 0 → h'.objs.size = hp.objs.size + 1 → (∀ b o, hp.get? b = some o → h'.get? b = some o) →
      R (.ok (.ret (.ref h'.objs.size))) ⟨h'.push { cls := .type "enumerate", data := .fields #[.none, .bool false, .ref hp.objs.size, rawInt 0, .none, .none] }, g, d, tk, os⟩ := fun h' a z k => by
    refine h _ h'.objs.size hp.objs.size ⟨Heap.get?_push_size _ rfl, a.ext (cs := []) (fun b o _ e => Heap.get?_push_of_some _ e) nofun, Nat.le_refl _, by rw [z]; exact Nat.lt_succ_self _⟩ fun b o e => Heap.get?_push_of_some _ (k b o e)
  have go : ∀ {B : Bool}, wpAny (model prog w) A.in1 (pure B >>= fun (short : Bool) => (fun (_ : Unit) => (pure () : Sem Unit)) ()) (fun _ _ => True) (fun _ _ => True) ⟨hp, g, d, tk, os⟩ := fun {_} => wpAny_bind (wpAny_pure (wpAny_pure True.intro))
  clear go
  wp_walk
  refine wpAny_stack_any fun st => wpAny_pure ?_
  split
  · rename_i c _ _ _ _ _
    cases (c == Value.type "enumerate")
    · wp_walk using q
      intro h' a z k
      have f := fin h' a z k
      wp_walk
      exact ⟨_, rfl, f⟩
    · wp_walk using q
      intro h' a z k
      have f := fin h' a z k
      wp_walk
      exact ⟨_, rfl, f⟩
  · wp_walk using q
    intro h' a z k
    have f := fin h' a z k
    wp_walk
    exact ⟨_, rfl, f⟩
theorem call_enum {p : Bool × Addr} {Q : Value → Shared → Prop} (hs : SeqAt s.heap p) (h : ∀ h' e it, ENew p s.heap.objs.size e it h' → (∀ b o, s.heap.get? b = some o → h'.get? b = some o) → Q (.ref e) { s with heap := h' }) :
    wpAny (model prog w) A (call (.type "enumerate") [.ref p.2]) Q E s :=
  callType_new F.called_enumerate (by decide) (F.typeCall_enumerate_1 _) (F.newCall_enumerate_1 _) (fun obj => F.args_object_init_2 obj _) F.entry_enumerate_new (meets_enum_new p) ⟨hs, fun h' e it n k => ⟨⟨_, n.en, rfl⟩, h h' e it n k⟩⟩
end

/-- the thing at p as it stands at each turn, each item in a new pair -/
def Iten (K : PySem.W.Frag) (p : Bool × Addr) : It :=
  ⟨fun i H => ∃ (xs : List V) (x : V), SeqV K H p xs ∧ xs[i]? = some x, fun i H v H' => ∃ T x, v = .ref T ∧ H T = none ∧ H' = upd H T (.tup [.int (i : Nat), x]) ∧ ∀ xs, SeqV K H p xs → xs[i]? = some x, fun i H => ∃ xs : List V, SeqV K H p xs ∧ xs.length ≤ i⟩
theorem turn_enumN {P : Program} {w : World} {K : PySem.W.Frag} {elts : List Expr} {kk : Nat} {tpos : Pos} (x : Src) (e : Addr) :
    Turn P w K (.Tuple elts kk tpos) (Iten K (x.t, x.l)) [e, x.it] e (fun i h => (∃ old, IsEnum h e x.it ((i : Nat) : Int) old) ∧ x.At h i ∧ e ≠ x.it) where
  mem := by simp
  obj := fun i h st b hb => by
    obtain ⟨⟨old, he⟩, q, _⟩ := st
    have e' : b = e ∨ b = x.it := by simpa using hb
    rcases e' with z | z
    · rw [z]; exact ⟨_, he, fun v q => nomatch q⟩
    · rw [z]
      unfold Src.At at q
      split at q
      · obtain ⟨o, e, _, d⟩ := q; exact ⟨o, e, fun v q => by rw [d] at q; cases q⟩
      · obtain ⟨o, e, _, d⟩ := q; exact ⟨o, e, fun v q => by rw [d] at q; cases q⟩
  keep := fun i h h' st k => by
    obtain ⟨⟨old, he⟩, q, hne⟩ := st
    refine ⟨⟨old, k e (by simp) _ he⟩, ?_, hne⟩
    unfold Src.At at q ⊢
    split at q <;> rename_i c
    · rw [if_pos c]; obtain ⟨o, e, r⟩ := q; exact ⟨o, k _ (by simp) _ e, r⟩
    · rw [if_neg c]; obtain ⟨o, e, r⟩ := q; exact ⟨o, k _ (by simp) _ e, r⟩
  item := by
    intro X hP hw hK hc i pins s σ H E I hf st hg
    subst hP hw hK
    obtain ⟨⟨old, he⟩, hit, hne⟩ := st
    obtain ⟨ys, y, hq, hy⟩ := hg
    obtain ⟨its, rv, on⟩ := on_of I hq
    obtain ⟨u, hu, ru⟩ := rv.get hy
    have hel : e < s.heap.objs.size := Heap.lt_size he
    have hil : x.it < s.heap.objs.size := by
      have q := hit
      unfold Src.At at q
      split at q
      · obtain ⟨_, q, _⟩ := q; exact Heap.lt_size q
      · obtain ⟨_, q, _⟩ := q; exact Heap.lt_size q
    refine pyNext_enum_item he hit on (v := u) (by simpa using hu) hne fun h' ho hit' hT hsz hk => ?_
    refine ⟨_, rfl, wpAny_letOwnedTupleGo_enum (s := { s with heap := h', toks := s.toks + 1 }) ho fun h'' he' sb => ?_⟩
    have hT2 : h''.get? s.heap.objs.size = some { cls := .type "tuple", data := .seq #[.int i s.toks, u] } := (sb.2 _ (Nat.ne_of_gt hel)).trans hT
    have new : ObjOk X.prog X.w (upd H s.heap.objs.size (.tup [.int (i : Nat), y])) h'' s.heap.objs.size (.tup [.int (i : Nat), y]) :=
      ⟨by show 2 ≤ sizeLine; decide, [.int i s.toks, u], .cons ⟨_, rfl⟩ (.cons ru .nil), ⟨_, hT2, rfl, _, rfl⟩⟩
    have I1 : Inv X pins σ (upd H s.heap.objs.size (.tup [.int (i : Nat), y])) { s with heap := h'', toks := s.toks + 1 } :=
      I.turnedNew (ch := [e, x.it]) (fun b ob hb q => (sb.2 b (fun z => hb (by simp [z]))).trans (hk b ob (fun z => hb (by simp [z])) (fun z => hb (by simp [z])) q)) hf (Nat.le_refl _) new
    refine ⟨.ref s.heap.objs.size, _, I1, rfl, ⟨_, y, rfl, I.hok.fresh (Nat.le_refl _), rfl, fun zs hz => by rw [seqV_inj I hz hq]; exact hy⟩, ⟨⟨u, ?_⟩, hit'.ext (cs := [e]) (fun b o n q => (sb.2 b (fun z => n (by simp [z]))).trans q) (fun q => hne (List.mem_singleton.mp q).symm), hne⟩, fun b hb => ?_⟩
    · have e1 : ((i + 1 : Nat) : Int) = (i : Int) + 1 := by omega
      rw [e1]; exact he'
    · have hb' : b < s.heap.objs.size := by
        have e' : b = e ∨ b = x.it := by simpa using hb
        rcases e' with z | z
        · rw [z]; exact hel
        · rw [z]; exact hil
      rw [upd_ne (Nat.ne_of_lt hb')]
      exact (hf b hb).1
  done := by
    intro X hP hw hK hc i pins s σ H E I hf st hg
    subst hP hw hK
    obtain ⟨⟨old, he⟩, hit, hne⟩ := st
    obtain ⟨ys, hq, hx⟩ := hg
    obtain ⟨its, rv, on⟩ := on_of I hq
    have hl := rv.length
    exact pyNext_enum_end (I.ok.hd hc) he hit on (by simp; omega) fun h' eb => ⟨rfl, I.turnedL (t' := s.toks) (ch := [e, x.it]) (fun b o hb q => eb b o (fun z => hb (by simp [List.mem_singleton.mp z])) q) hf⟩
  self := fun A i s Q E st h => let ⟨⟨_, he⟩, _⟩ := st; wpAny_pyIter_enum he h
def iEnumN (K : PySem.W.Frag) (ta : TA) : TI := fun σ H R => ta σ H fun vs H1 => ∃ (p : Bool × Addr) (xs : List V), vs = [.ref p.2] ∧ SeqV K H1 p xs ∧ R (Iten K p) H1
section
variable {X : Cx} {E : XW}
theorem pi_enumN {e : Expr} {ta : TA} {p pos tpos : Pos} {elts : List Expr} {kk : Nat} (hg : Gl X "enumerate") (hm : X.mg "enumerate" = none) (ha : PA X [e] ta) (hs : starEach [e] X.env = [(false, eval e X.env)]) :
    PI X (.Tuple elts kk tpos) (.Call (.Name "enumerate" p) [e] [] pos) (iEnumN X.K ta) := by
  refine ⟨fun pins s σ H R I h => ?_⟩
  refine Call_ (ld_blt I hg hm boot_enumerate (PyProof.Rows.callWith_type1 (thn (ha.run pos pins s σ H _ I h) fun us s1 ⟨vs, H1, I1, r1, q1⟩ => ?_) hs rfl))
  obtain ⟨a, xs, ex, hq, q⟩ := q1
  subst ex
  cases r1 with
  | cons r rr =>
    cases rr
    cases r
    refine call_enum (seqV_at I1 hq) fun h' en it n k => wpAny_pyIter_enum n.en ?_
    have I2 : Inv X pins σ H1 { s1 with heap := h' } := I1.kept (t' := s1.toks) k
    refine ⟨en, [en, it], _, _, H1, rfl, I2, turn_enumN ⟨a.1, it, a.2⟩ en, ⟨⟨.none, n.en⟩, n.at_, Nat.ne_of_gt n.gt⟩, fun b hb => ?_, q⟩
    have hle : s1.heap.objs.size ≤ b := by
      rcases (by simpa using hb : b = en ∨ b = it) with z | z
      · rw [z]; exact Nat.le_trans n.ge (Nat.le_of_lt n.gt)
      · rw [z]; exact n.ge
    exact I1.fpOk hle (I1.hok.fresh hle)
def enumD : Nat → List D → List Xv
  | _, [] => []
  | i, d :: ds => .d (.tuple [.int (i : Nat), d]) :: enumD (i + 1) ds
theorem enumD_get : ∀ {ds : List D} {k i : Nat}, (enumD k ds)[i]? = (ds[i]?).map fun d => Xv.d (.tuple [.int ((k + i : Nat) : Int), d])
  | [], k, i => by simp [enumD]
  | d :: ds, k, 0 => by simp [enumD]
  | d :: ds, k, i + 1 => by
    simp only [enumD, List.getElem?_cons_succ]
    rw [enumD_get, show k + 1 + i = k + (i + 1) by omega]
theorem enumD_len : ∀ {ds : List D} {k : Nat}, (enumD k ds).length = ds.length
  | [], _ => rfl
  | d :: ds, k => by simp [enumD, enumD_len]
theorem it_enum {K : PySem.W.Frag} {hs : List Addr} {S : Sto} {mu : List Addr} {H : Hp} {p : Bool × Addr} {ds : List D} (h : SrcD K (live S mu hs) H p ds) : ItOk K hs (enumD 0 ds) S mu H (Iten K p) := by
  obtain ⟨_, _, _, hl⟩ := h.at_
  refine ⟨by rw [enumD_len]; exact hl, fun Ts ex S1 mu1 H1 hx g s => ?_⟩
  obtain ⟨vs, a, b, _⟩ := (SrcD.keep (g.keepX (K := K) hx) h).at_
  have el := b.length
  rw [enumD_len]
  refine ⟨fun i hi => ⟨vs, vs[i]'(by omega), a, by simp⟩, ⟨vs, a, by omega⟩, fun i v H' hi y => ?_⟩
  obtain ⟨T, x, rfl, hT, rfl, hu⟩ := y
  obtain ⟨u, eu, du⟩ := b.get (i := i) (List.getElem?_eq_getElem hi)
  have e := hu vs a
  rw [eu] at e; cases e
  have g2 := Go.laid (K := K) s hT (.tup [.int (i : Nat), x])
  refine ⟨g2, s.laid hT _, .d (.tuple [.int (i : Nat), ds[i]]), by rw [enumD_get, List.getElem?_eq_getElem hi]; simp, ?_⟩
  unfold DenX DenD
  refine ⟨T, _, rfl, .inl (.inl upd_same), by simp [sizeLine_eq], ?_⟩
  unfold DenL
  refine ⟨_, _, rfl, by unfold DenD; rfl, ?_⟩
  unfold DenL
  exact ⟨_, [], rfl, DenD.keep g2.keep _ _ du, by unfold DenL; rfl⟩
def enumIt (xs : List Xv) (S : Sto) : R (List Xv) := match xs with
  | [x] => (match srcX x with
    | some p => .ok (enumD 0 p.2) S
    | none => .bad)
  | _ => .bad
def pEnum (q : Mes) : Mes := fun ρ S => (q ρ S).bind enumIt
theorem i_enum {e : Expr} {q : Mes} {p pos tpos : Pos} {elts : List Expr} {kk : Nat} (hg : Gl X "enumerate") (hm : X.mg "enumerate" = none) (ha : PA X [e] (tDs X.K E q)) (hs : starEach [e] X.env = [(false, eval e X.env)]) :
    PI X (.Tuple elts kk tpos) (.Call (.Name "enumerate" p) [e] [] pos) (iD X.K E (pEnum q)) := PI.imp (pi_enumN hg hm ha hs) fun σ H R h => by
  obtain ⟨ρ, S, mu, hs, en, s, h⟩ := h
  refine ⟨ρ, S, mu, hs, en, s, Post.mono (Post.bind h) fun xs S1 mu1 H1 g1 s1 z vs hv => ?_⟩
  obtain ⟨_, _, z⟩ := z
  unfold enumIt at z
  split at z
  · rename_i x
    obtain ⟨v, rfl, dv⟩ := pair1 hv
    cases ex : srcX x with
    | none => rw [ex] at z; exact z.elim
    | some pp =>
      rw [ex] at z
      obtain ⟨ls, e1, h1⟩ := srcXs_den (xs := [x]) (dss := [pp.2]) hv (by simp [srcXs, ex])
      cases h1 with
      | cons q t =>
        cases t
        rename_i p
        obtain ⟨ys, a, _⟩ := q.at_
        exact ⟨p, ys, e1, a, z.here s1 _ (it_enum q)⟩
  · exact z.elim
end
end PB

namespace PB
open PySem PySem.Spec PyProof.Rows L2 GenW
variable {Ts : List Addr}

/-- the context of a generator expression's code -/
abbrev gcx (X : Cx) (A : Around) (s : Shared) (H : Hp) (ce : Env) (fp : List Addr) (pn : List (Addr × Obj)) : Cx := { X with A := A, s_0 := s, H_0 := H, env := ce, outer := X.stack, stack := ce :: X.stack, ex := fp, fn := fun _ => false, pn := pn, xe := fun _ _ => False }
/-- the names of a generator expression's own scope -/
structure GenOk (N : List Str) (sc scope : Scope) (own : List (Str × Nat)) : Prop where
  kind : scope.kind = .function
  co : scope.isCoroutine = false
  cell : ∀ y ∈ scope.names, y.2 ≠ .cell
  dot : scope.names.lookup (".0" : Str) = some NameKind.local
  uniq : ∀ y ∈ scope.names, scope.names.lookup y.1 = some y.2
  ix : ∀ p ∈ own, N[p.2]? = some p.1
  free : ∀ y ∈ scope.names, y.2 = .free → sc.names.lookup y.1 = some .cell ∨ sc.names.lookup y.1 = some .free
  own : ∀ y ∈ scope.names, y.2 = .local → y.1 ∈ own.map (·.1) ∨ y.1 ∉ N
theorem over_gen {A : Around} {elt : Expr} {gs : List Comprehension} {scope : Scope} {pos : Pos} {it acc : Value} {ce : Env} : A.over (.compLoop (.GeneratorExp elt gs scope pos) 0 it acc ce) [] = A.deeper ce := by
  first
    | rfl
    | (obtain ⟨hd, d, fr, gs, u⟩ := A; simp [Around.over, Around.deeper, marksOver, frameCount, unitsOf, envsOf, guardsOf, pushEnvs, pushGuards, Code.envs, Code.env?, Code.isFrame, Code.guards, Code.isGuard, Code.weight, Code.frames, Code.isCreation, Code.isCaller, Code.cUnits])
theorem over_gen0 {A : Around} {elt : Expr} {gs : List Comprehension} {scope : Scope} {pos : Pos} {it acc : Value} {ce : Env} : A.over (.compStart (.GeneratorExp elt gs scope pos) 0 it acc ce) [] = A.deeper ce := by
  first
    | rfl
    | (obtain ⟨hd, d, fr, gs, u⟩ := A; simp [Around.over, Around.deeper, marksOver, frameCount, unitsOf, envsOf, guardsOf, pushEnvs, pushGuards, Code.envs, Code.env?, Code.isFrame, Code.guards, Code.isGuard, Code.weight, Code.frames, Code.isCreation, Code.isCaller, Code.cUnits])
section
variable {X : Cx} {pins : List (Addr × Obj)} {σ : L2.St} {H : Hp} {s : Shared}
theorem gen_start {A : Around} {scope : Scope} {own : List (Str × Nat)} {fp : List Addr} {code : Value} {s5 : Shared} {m : Str → Option Value} {pn : List (Addr × Obj)} (I : Inv X pins σ H s) (ok : GenOk X.N X.env.scope scope own) (hN : X.N.Nodup) (hfp : ∀ b ∈ fp, FpOk X pins H b ∧ b < s.heap.objs.size)
    (hA : A.frames = some X.stack) (hd : A.handled = none) (k : ∀ b o, s.heap.get? b = some o → s5.heap.get? b = some o) (hn : s5.heap.Ns s.heap.objs.size m) (hos : s5.os = s.os) (hb : AllBare s5.gens)
    (hpn : ∀ p ∈ pn, s5.heap.get? p.1 = some p.2 ∧ s.heap.objs.size < p.1 ∧ ∀ v, p.2.data ≠ .cell v) :
    Inv (gcx X (A.deeper (genEnv scope (cloFrom X.env.cells scope.names []) s.heap.objs.size code builtinsNs X.env)) s H (genEnv scope (cloFrom X.env.cells scope.names []) s.heap.objs.size code builtinsNs X.env) fp pn) [] (wipe σ (own.map (·.2))) H s5 := by
  have hfree : ∀ y ∈ scope.names, y.2 = .free → ∃ c, X.env.cells.lookup y.1 = some c := fun y hy e => by
    rcases ok.free y hy e with k | k
    · exact I.ok.has _ (.inl k)
    · exact I.ok.has _ (.inr k)
  have cm : ∀ {y c}, (cloFrom X.env.cells scope.names []).lookup y = some c → X.env.cells.lookup y = some c ∧ c < s.heap.objs.size := fun {y c} hl => by
    rcases cloFrom_mem (PySem.mem_of_lookup hl) with hm | ⟨h1, rfl⟩
    · cases hm
    · obtain ⟨c, hc⟩ := hfree _ h1 rfl
      rw [hc]
      obtain ⟨w, z⟩ := I.cell _ _ hc
      exact ⟨rfl, z.lt⟩
  have look : ∀ {y : Str}, scope.names.lookup y = some .free → ∃ c, (cloFrom X.env.cells scope.names []).lookup y = some c := fun {y} hl => by
    have hy : (y, NameKind.free) ∈ scope.names := PySem.mem_of_lookup hl
    exact mem_lookup (cloFrom_has (cells := X.env.cells) (acc := []) hy)
  refine ⟨⟨I.ok.mod, ok.kind, I.ok.glob, rfl, Nat.le_refl _, fun y z c e1 e2 => I.ok.inj y z c (cm e1).1 (cm e2).1, fun y hy => ?_, fun y c z e => ?_, fun _ => hd, ?_, .inr ⟨rfl, rfl⟩, fun b hb => ⟨Nat.ne_of_lt (hfp b hb).2, fun y c e z => (hfp b hb).1.2.2.2.2.1 y c (cm e).1 z⟩, I.bs, Nat.le_trans I.ok.bsz I.sz, fun b o e hb => ?_, fun b hb z => ?_, I.stack, I.stkFree⟩,
    hos, hb, Un.kept k, ⟨m, hn, fun i y av e1 e2 e3 => ?_⟩, fun y c e => ?_, I.hok.fresh (Nat.le_refl _), fun y c e => I.freeC y c (cm e).1, fun p hp => ?_, I.hok.kept k, by rw [wipe_length]; exact I.len⟩
  · have key : scope.names.lookup y = some .cell ∨ scope.names.lookup y = some .free := hy
    rcases key with q | q
    · exact absurd rfl (ok.cell _ (PySem.mem_of_lookup q))
    · exact look q
  · exact absurd (show false = true from z) Bool.false_ne_true
  · exact Around.frames_deeper hA
  · rcases (hfp b hb).1.2.2.2.1 with z | z
    · exact I.ok.noex b o e z
    · exact absurd (Nat.lt_of_lt_of_le (Heap.lt_size e) (Nat.le_trans I.ok.bsz z)) (Nat.lt_irrefl _)
  · rcases List.mem_cons.mp (I.stkSub b z) with z | z
    · exact (hfp b hb).1.2.1 z
    · exact (hfp b hb).1.2.2.1 z
  · obtain ⟨e2, hne⟩ := wipe_some e2
    have hfr : scope.names.lookup y = some .free := by
      have e3 : scope.names.lookup y = some .local ∨ scope.names.lookup y = some .cell ∨ scope.names.lookup y = some .free := e3
      rcases e3 with q | q | q
      · exfalso
        rcases ok.own _ (PySem.mem_of_lookup q) rfl with e' | e'
        · obtain ⟨p, hp, hpy⟩ := List.mem_map.mp e'
          have e3 := ok.ix p hp
          have : p.1 = y := hpy
          rw [this] at e3
          exact hne (List.mem_map.mpr ⟨p, hp, nodup_ix hN e3 e1⟩)
        · exact e' (List.mem_of_getElem? e1)
      · exact absurd rfl (ok.cell _ (PySem.mem_of_lookup q))
      · exact q
    obtain ⟨m', hn', hl⟩ := I.loc
    have hvis : Vis X.env.scope y := (ok.free _ (PySem.mem_of_lookup hfr) rfl).elim (fun k => .inr (.inl k)) (fun k => .inr (.inr k))
    obtain ⟨w, r, q⟩ := hl i y av e1 e2 hvis
    refine ⟨w, r, .inr ⟨.inr hfr, ?_⟩⟩
    obtain ⟨c, h1⟩ := look hfr
    rcases q with ⟨kk, _⟩ | ⟨_, c', e', z⟩
    · have kk : X.env.scope.names.lookup y = some .local := kk
      rcases ok.free _ (PySem.mem_of_lookup hfr) rfl with k' | k' <;> rw [show X.env.scope.names.lookup y = _ from k'] at kk <;> cases kk
    · rw [(cm h1).1] at e'; cases e'
      exact ⟨c, h1, z.keeps k⟩
  · obtain ⟨w, z⟩ := I.cell y c (cm e).1
    exact ⟨w, z.keeps k⟩
  · have hp : p ∈ pn := by simpa using hp
    obtain ⟨h1, h2, h3⟩ := hpn p hp
    refine ⟨h1, I.hok.fresh (Nat.le_of_lt h2), Nat.ne_of_gt h2, fun z => ?_, h3⟩
    rcases List.mem_cons.mp (I.stkSub _ z) with e | e
    · have q := I.lt
      rw [← e] at q
      exact absurd (Nat.lt_trans h2 q) (Nat.lt_irrefl _)
    · exact I.nofs (Nat.le_of_lt h2) e
/-- the same state by another way -/
theorem inv_same {s' : Shared} (I : Inv X pins σ H s) (hh : s'.heap = s.heap) (ho : s'.os = s.os) (hb : AllBare s'.gens) : Inv X pins σ H s' :=
  I.call' (ch := []) ho (by rw [hh]; exact Un.refl) (by rw [hh]; exact I.hok) hb (fun b z => absurd z (by simp))
end

/-- what a consumed value's truth is -/
def TruS : V → Bool → Prop
  | .bl c, k => c = k
  | .int i, k => (i != 0) = k
  | .non, k => false = k
  | _, _ => False
theorem tru_s {prog : Program} {w : World} {A : Around} {E : Value → Shared → Prop} {s : Shared} {y : V} {v : Value} {k : Bool} {Q : Bool → Shared → Prop} (h : TruS y k) (r : RelV y v) (q : Q k s) : wpAny (model prog w) A (truthy v) Q E s := by
  cases y with
  | bl c => cases r; cases h; exact wpAny_truthy_bool q
  | int i => obtain ⟨t, rfl⟩ := r; cases h; exact PyProof.Rows.truthy_int q
  | non => cases r; cases h; exact truthy_none q
  | _ => exact h.elim

section
variable {X : Cx}
/-- the turns: what is wanted is Q; the consumer stops at b -/
def GTurns (J : It) (g : TG) (tt : TT) (te : TE) (vs : List Nat) (b : Bool) (σ : L2.St) (Q : Bool → Hp → Prop) (W : Nat → Nat → Hp → Prop) : Prop := ∀ i m H, W i m H →
  (J.stop i H ∧ Q (!b) H) ∨ (J.go i H ∧ ∃ Nx : Hp → Prop, (∀ H', Nx H' → ∃ m', m' < m ∧ W (i + 1) m' H') ∧ ∀ x H', J.yld i H x H' → g x (wipe σ vs) H' fun σ2 H2 => wipe σ2 vs = wipe σ vs ∧ tt σ2 H2 fun c H3 =>
    if c = true then te σ2 H3 fun y H4 => ∃ k, TruS y k ∧ (if k = b then Q b H4 else Nx H4) else Nx H3)
abbrev gLoop (elt tg iter : Expr) (ifs : List Expr) (scope : Scope) (pos : Pos) (it : Addr) (ce : Env) : Code := .compLoop (.GeneratorExp elt [⟨tg, iter, ifs, 0⟩] scope pos) 0 (.ref it) .none ce
def gEnd (Xg : Cx) (σw : L2.St) (b : Bool) (Q : Bool → Hp → Prop) : GenEnd := fun n s₀ r s₁ => ((r = .ok (.ret .none) ∨ r = .ok .next) ∧ ∃ H, Inv Xg [] σw H s₁ ∧ Q (!b) H) ∨ ∃ e, r = .error e ∧ False
def gOut (Xg : Cx) (b : Bool) (Q : Bool → Hp → Prop) : Protocol := fun n s₀ v s kap => ∃ (y : V) (H : Hp) (pins : List (Addr × Obj)) (σ : L2.St) (k : Bool), RelV y v ∧ Inv Xg pins σ H s ∧ TruS y k ∧
  (if k = b then Q b H else ∀ s', s'.heap = s.heap → s'.os = s.os → AllBare s'.gens → kap (.send .none) s')
theorem gen_loop {A : Around} {sX : Shared} {HX : Hp} {ce : Env} {fp : List Addr} {pn : List (Addr × Obj)} {elt tg iter : Expr} {ifs : List Expr} {scope : Scope} {pos : Pos} {it : Addr} {tn : Nat → Heap → Prop} {J : It} {g : TG} {tt : TT} {te : TE} {vs : List Nat} {b : Bool} {σ : L2.St} {Q : Bool → Hp → Prop} {W : Nat → Nat → Hp → Prop}
    (hc : X.calm = true) (hco : ce.scope.isCoroutine = false) (T : Turn X.prog X.w X.K tg J fp it tn) (pg : PG (gcx X (A.deeper ce) sX HX ce fp pn) tg g) (pt : PTs (gcx X (A.deeper ce) sX HX ce fp pn) ifs tt) (pe : PE (gcx X (A.deeper ce) sX HX ce fp pn) elt te)
    (hpn : ∀ p ∈ pn, ∀ b ∈ fp, p.1 ≠ b) (turns : GTurns J g tt te vs b σ Q W) :
    ∀ (m n i : Nat) (s₀ s : Shared) (H : Hp), m < n → W i m H → Inv (gcx X (A.deeper ce) sX HX ce fp pn) [] (wipe σ vs) H s → tn i s.heap → (∀ b ∈ fp, H b = none) →
      Seg (model X.prog X.w) A (gEnd (gcx X (A.deeper ce) sX HX ce fp pn) (wipe σ vs) b Q) (gOut (gcx X (A.deeper ce) sX HX ce fp pn) b Q) n s₀ (gLoop elt tg iter ifs scope pos it ce) ((model X.prog X.w).den (gLoop elt tg iter ifs scope pos it ce)) [] s := by
  intro m
  induction m using Nat.strongRecOn with
  | ind m ih =>
    intro n i s₀ s H hmn w I st nf
    have stat : ∀ {pins : List (Addr × Obj)} {σ' : L2.St} {H' : Hp} {s' : Shared}, Inv (gcx X (A.deeper ce) sX HX ce fp pn) [] σ' H' s' → (∀ b ∈ fp, H' b = none) → ∀ b ∈ fp, FpOk (gcx X (A.deeper ce) sX HX ce fp pn) [] H' b := fun {pins σ' H' s'} I' hn b hb =>
      ⟨hn b hb, (I'.ok.exf b hb).1, I'.ok.exfs b hb, .inl hb, fun x c e => (I'.ok.exf b hb).2 x c e, fun p hp => hpn p (by simpa using hp) b hb⟩
    show Seg _ A _ _ n s₀ _ ((compTurn (.GeneratorExp elt [⟨tg, iter, ifs, 0⟩] scope pos) 0 (.ref it) .none ce).onRaise (leaving ce)) [] s
    rw [compTurn_gen, Sem.onRaise_eq_wrap]
    refine seg_bind_wrap (wpAny_standAt ?_)
    rcases turns i m H w with ⟨stop, q⟩ | ⟨go, Nx, hNx, step⟩
    · refine seg_bind_wrap ?_
      rw [over_gen]
      refine thnF (T.done (gcx X (A.deeper ce) sX HX ce fp pn) rfl rfl rfl hc i [] s _ H (fun _ _ => False) I (stat (pins := []) I nf) st stop) fun r s1 ⟨hr, I1⟩ => ?_
      subst hr
      exact seg_end (.ok .next) (.inl ⟨.inr rfl, H, I1, q⟩)
    · refine seg_bind_wrap ?_
      rw [over_gen]
      refine thnF (T.item (gcx X (A.deeper ce) sX HX ce fp pn) rfl rfl rfl hc i [] s _ H (fun _ _ => False) I (stat (pins := []) I nf) st go) fun r s6 ⟨u, hr, h6⟩ => ?_
      subst hr
      refine seg_bind_wrap ?_
      rw [over_gen]
      refine thnF h6 fun _ s7 ⟨x, H7, I7, r7, y7, st7, n7⟩ => ?_
      have I7' := I7.pinned (stat (pins := []) I7 n7) (T.obj _ _ st7)
      refine seg_bind_wrap ?_
      rw [over_gen]
      refine thnF (pg.run _ s7 _ H7 x u _ I7' r7 (step x H7 y7)) fun _ s8 ⟨σ8, H8, I8, hw8, q8⟩ => ?_
      refine seg_bind_wrap ?_
      rw [over_gen]
      refine thnF (pt.run _ s8 σ8 H8 _ I8 q8) fun c s9 ⟨H9, I9, q9⟩ => ?_
      have fin : ∀ {s' : Shared} {H' : Hp}, Inv (gcx X (A.deeper ce) sX HX ce fp pn) ([] ++ pinsAt fp s7.heap) σ8 H' s' → Nx H' → ∃ m', m' < m ∧ W (i + 1) m' H' ∧ Inv (gcx X (A.deeper ce) sX HX ce fp pn) [] (wipe σ vs) H' s' ∧ tn (i + 1) s'.heap ∧ (∀ b ∈ fp, H' b = none) := fun {s' H'} I' nx => by
        obtain ⟨m', hm, w'⟩ := hNx H' nx
        have pin' : ∀ b ∈ fp, ∀ o, s7.heap.get? b = some o → s'.heap.get? b = some o ∧ H' b = none := fun b hb o e =>
          let z := I'.pin (b, o) (List.mem_append_right _ (List.mem_append_right _ (mem_pinsAt hb e)))
          ⟨z.1, z.2.1⟩
        have hl : (wipe σ vs).length = σ8.length := by rw [← hw8, wipe_length]
        refine ⟨m', hm, w', (I'.unpinned (pins := [])).weak hl (fun j v e => ?_), T.keep _ _ _ st7 fun b hb o e => (pin' b hb o e).1, fun b hb => ?_⟩
        · rw [← hw8] at e
          exact (wipe_some e).1
        · obtain ⟨o, e, _⟩ := T.obj _ _ st7 b hb
          exact (pin' b hb o e).2
      cases c with
      | false =>
        simp only [Bool.false_eq_true, if_false] at q9 ⊢
        obtain ⟨m', hm, w', I', st', n'⟩ := fin I9 q9
        exact seg_again rfl (ih m' hm n (i + 1) s₀ s9 H9 (Nat.lt_trans hm hmn) w' I' st' n')
      | true =>
        simp only [if_true] at q9 ⊢
        have hy : ∀ v, yieldOut ce v = yieldValue v := fun v => by simp only [yieldOut, hco, Bool.false_eq_true, if_false]
        simp only [hy]
        rw [Sem.bind_eq_wrap', Sem.bind_eq_wrap', Sem.wrap_wrap, Sem.wrap_wrap]
        refine seg_wrap ?_
        rw [over_gen]
        refine thnF (pe.run _ s9 σ8 H9 _ I9 q9) fun v s10 ⟨y, H10, I10, r10, k, tr, q10⟩ => ?_
        obtain ⟨n', rfl⟩ : ∃ n', n = n' + 1 := ⟨n - 1, by omega⟩
        refine seg_at (seg_yield rfl rfl rfl ⟨y, H10, _, σ8, k, r10, I10, tr, ?_⟩)
        by_cases hk : k = b
        · rw [if_pos hk] at q10 ⊢; exact q10
        · rw [if_neg hk] at q10 ⊢
          intro s'' hh ho hb
          have I11 := inv_same I10 hh ho hb
          obtain ⟨m', hm, w', I', st', nf'⟩ := fin I11 q10
          exact seg_again rfl (ih m' hm n' (i + 1) s'' s'' H10 (by omega) w' I' st' nf')
end

section
variable {X : Cx}
/-- the generator at a, number g: what comes when it is woken -/
structure GAt (X : Cx) (Xg : Cx) (σw : L2.St) (b : Bool) (Q : Bool → Hp → Prop) (a : Addr) (g n : Nat) (s : Shared) : Prop where
  isg : s.heap.IsGen a g
  lim : s.heap.NoLimit
  bare : AllBare s.gens
  go : ∃ gs, s.gens[g]? = some gs ∧ ∀ s'' : Shared, s''.heap = s.heap → s''.os = s.os → AllBare s''.gens → gs.Goes (model X.prog X.w) X.A.in1.in1 (gEnd Xg σw b Q) (gOut Xg b Q) n (.send .none) s''
theorem setGen_heap {s : Shared} {g : Nat} {x : GenState} : (s.setGen g x).heap = s.heap := rfl
theorem gen_use {Xg : Cx} {σw : L2.St} {b : Bool} {Q : Bool → Hp → Prop} {a : Addr} {g : Nat} {Rr : Bool → Shared → Prop} (hd : X.A.handled = none) (hdep : X.A.depth < recursionLimit)
    (hgen : ∀ {pins : List (Addr × Obj)} {σ : L2.St} {H : Hp} {s : Shared}, Inv Xg pins σ H s → s.heap.IsGen a g)
    (hfin : ∀ {pins : List (Addr × Obj)} {σ : L2.St} {H : Hp} {s : Shared} {k : Bool} {h' : Heap} {gs : GenState}, Inv Xg pins σ H s → Q k H → gs.bare = true → (∀ b o, s.heap.get? b = some o → h'.get? b = some o) → Rr k { s.setGen g gs with heap := h' })
    {id : String} (hentry : ∀ (s : Shared) (R : Result → Shared → Prop), (wpAny (model X.prog X.w) X.A.in1 (pyNext (.ref a)) (fun r s1 => match r with
        | none => R (.ok (.ret (.bool (!b)))) s1
        | some v => wpAny (model X.prog X.w) X.A.in1 (truthy v) (fun k s2 => if k = b then R (.ok (.ret (.bool b))) s2 else codeAny (model X.prog X.w) X.A (.builtin id ⟨[.ref a], []⟩) R s2) (fun e s' => R (.error e) s') s1) (fun e s' => R (.error e) s') s) → codeAny (model X.prog X.w) X.A (.builtin id ⟨[.ref a], []⟩) R s) :
    ∀ (n : Nat) (s : Shared), GAt X Xg σw b Q a g n s → codeAny (model X.prog X.w) X.A (.builtin id ⟨[.ref a], []⟩) (fun r s' => match r with | .ok (.ret (.bool k)) => Rr k s' | _ => False) s := by
  intro n
  induction n with
  | zero =>
    intro s ⟨isg, lim, bare, gs, hgs, hgo⟩
    refine hentry s _ (wpAny_gsz (n := s.gens.size) (Nat.le_refl _) (next_genG (A := X.A.in1) hd lim hdep isg hgs (hgo _ rfl rfl (allBare_setGen bare rfl)) (fun v s₁ gs' hb hv => ?_) (fun s₁ hp h' hk => ?_) (fun e s₁ h => h.elim)))
    · intro hsz
      obtain ⟨y, H, pins, σ, k, rv, I, tr, q⟩ := hv
      refine tru_s tr rv ?_
      by_cases hk : k = b
      · rw [if_pos hk] at q ⊢
        exact hfin I q hb fun _ _ e => e
      · rw [if_neg hk] at q
        exact (q s₁ rfl rfl I.bare).elim
    · intro hsz
      obtain ⟨H, I, q⟩ := hp
      exact hfin I q rfl hk
  | succ n ih =>
    intro s ⟨isg, lim, bare, gs, hgs, hgo⟩
    refine hentry s _ (wpAny_gsz (n := s.gens.size) (Nat.le_refl _) (next_genG (A := X.A.in1) hd lim hdep isg hgs (hgo _ rfl rfl (allBare_setGen bare rfl)) (fun v s₁ gs' hb hv => ?_) (fun s₁ hp h' hk => ?_) (fun e s₁ h => h.elim)))
    · intro hsz
      obtain ⟨y, H, pins, σ, k, rv, I, tr, q⟩ := hv
      refine tru_s tr rv ?_
      by_cases hk : k = b
      · rw [if_pos hk] at q ⊢
        exact hfin I q hb fun _ _ e => e
      · rw [if_neg hk] at q ⊢
        have hlt : g < s₁.gens.size := by
          have h1 : g < s.gens.size := by
            rcases Nat.lt_or_ge g s.gens.size with h | h
            · exact h
            · rw [Array.getElem?_eq_none h] at hgs; cases hgs
          have h2 := setGen_size s₁ g gs'
          omega
        refine ih (s₁.setGen g gs') ⟨show s₁.heap.IsGen a g from hgen I, I.nolimit, allBare_setGen I.bare hb, gs', setGen_at hlt, fun s'' hh ho hb' => q s'' hh ho hb'⟩
    · intro hsz
      obtain ⟨H, I, q⟩ := hp
      exact hfin I q rfl hk
theorem all_entry {a : Addr} (s : Shared) (R : Result → Shared → Prop) (h : wpAny (model X.prog X.w) X.A.in1 (pyNext (.ref a)) (fun r s1 => match r with
        | none => R (.ok (.ret (.bool (!false)))) s1
        | some v => wpAny (model X.prog X.w) X.A.in1 (truthy v) (fun k s2 => if k = false then R (.ok (.ret (.bool false))) s2 else codeAny (model X.prog X.w) X.A (.builtin "all.loop" ⟨[.ref a], []⟩) R s2) (fun e s' => R (.error e) s') s1) (fun e s' => R (.error e) s') s) :
    codeAny (model X.prog X.w) X.A (.builtin "all.loop" ⟨[.ref a], []⟩) R s := by
  refine codeAny_builtin F.entry_all_loop ?_
  rw [Around.under_plainId F.plain_all_loop _]
  show wpAny _ X.A.in1 (pyNext (.ref a) >>= _) _ _ s
  refine wpAny_bind (wpAny_mono h (fun r s1 h1 => ?_) fun _ _ e => e)
  cases r with
  | none => exact wpAny_bind (wpAny_rule (wpAny_pure h1))
  | some v =>
    refine wpAny_bind (wpAny_holding (wpAny_mono h1 (fun k s2 h2 => ?_) fun _ _ e => e))
    refine wpAny_bind (wpAny_letGo ?_)
    cases k with
    | true =>
      rw [if_neg (by decide)] at h2
      simp only [if_true]
      exact wpAny_pure ⟨plainId_quiet F.plain_all_loop _, h2⟩
    | false =>
      rw [if_pos rfl] at h2
      simp only [Bool.false_eq_true, if_false]
      exact wpAny_bind (wpAny_rule (wpAny_pure h2))
theorem any_entry {a : Addr} (s : Shared) (R : Result → Shared → Prop) (h : wpAny (model X.prog X.w) X.A.in1 (pyNext (.ref a)) (fun r s1 => match r with
        | none => R (.ok (.ret (.bool (!true)))) s1
        | some v => wpAny (model X.prog X.w) X.A.in1 (truthy v) (fun k s2 => if k = true then R (.ok (.ret (.bool true))) s2 else codeAny (model X.prog X.w) X.A (.builtin "any.loop" ⟨[.ref a], []⟩) R s2) (fun e s' => R (.error e) s') s1) (fun e s' => R (.error e) s') s) :
    codeAny (model X.prog X.w) X.A (.builtin "any.loop" ⟨[.ref a], []⟩) R s := by
  refine codeAny_builtin F.entry_any_loop ?_
  rw [Around.under_plainId F.plain_any_loop _]
  show wpAny _ X.A.in1 (pyNext (.ref a) >>= _) _ _ s
  refine wpAny_bind (wpAny_mono h (fun r s1 h1 => ?_) fun _ _ e => e)
  cases r with
  | none => exact wpAny_bind (wpAny_rule (wpAny_pure h1))
  | some v =>
    refine wpAny_bind (wpAny_holding (wpAny_mono h1 (fun k s2 h2 => ?_) fun _ _ e => e))
    refine wpAny_bind (wpAny_letGo ?_)
    cases k with
    | true =>
      rw [if_pos rfl] at h2
      simp only [if_true]
      exact wpAny_bind (wpAny_rule (wpAny_pure h2))
    | false =>
      rw [if_neg (by decide)] at h2
      simp only [Bool.false_eq_true, if_false]
      exact wpAny_pure ⟨plainId_quiet F.plain_any_loop _, h2⟩
end
end PB

namespace PB
open PySem PySem.Spec PyProof.Rows L2 GenW

section
variable {X : Cx}
theorem gen_begin {A : Around} {sX : Shared} {HX : Hp} {ce : Env} {fp : List Addr} {pn : List (Addr × Obj)} {elt tg iter : Expr} {ifs : List Expr} {scope : Scope} {pos : Pos} {it : Addr} {tn : Nat → Heap → Prop} {J : It} {g : TG} {tt : TT} {te : TE} {vs : List Nat} {b : Bool} {σ : L2.St} {Q : Bool → Hp → Prop} {W : Nat → Nat → Hp → Prop}
    (hc : X.calm = true) (hco : ce.scope.isCoroutine = false) (T : Turn X.prog X.w X.K tg J fp it tn) (pg : PG (gcx X (A.deeper ce) sX HX ce fp pn) tg g) (pt : PTs (gcx X (A.deeper ce) sX HX ce fp pn) ifs tt) (pe : PE (gcx X (A.deeper ce) sX HX ce fp pn) elt te)
    (hpn : ∀ p ∈ pn, ∀ b ∈ fp, p.1 ≠ b) (turns : GTurns J g tt te vs b σ Q W) (m n : Nat) (s₀ s : Shared) (H : Hp) (hmn : m < n) (w : W 0 m H) (I : Inv (gcx X (A.deeper ce) sX HX ce fp pn) [] (wipe σ vs) H s) (st : tn 0 s.heap) (nf : ∀ b ∈ fp, H b = none) :
    Seg (model X.prog X.w) A (gEnd (gcx X (A.deeper ce) sX HX ce fp pn) (wipe σ vs) b Q) (gOut (gcx X (A.deeper ce) sX HX ce fp pn) b Q) n s₀ (.compStart (.GeneratorExp elt [⟨tg, iter, ifs, 0⟩] scope pos) 0 (.ref it) .none ce) ((model X.prog X.w).den (.compStart (.GeneratorExp elt [⟨tg, iter, ifs, 0⟩] scope pos) 0 (.ref it) .none ce)) [] s := by
  have loop := gen_loop (iter := iter) (scope := scope) (pos := pos) hc hco T pg pt pe hpn turns m n 0 s₀ s H hmn w I st nf
  show Seg _ A _ _ n s₀ _ ((compStart (.GeneratorExp elt [⟨tg, iter, ifs, 0⟩] scope pos) 0 (.ref it) .none ce).onRaise (leaving ce)) [] s
  unfold compStart
  rw [Sem.onRaise_eq_wrap]
  show Seg _ A _ _ n s₀ _ ((ask >>= _).wrap _ _ _ _) [] s
  refine seg_bind_wrap (wpAny_askSetting ?_)
  split
  · exact seg_again rfl loop
  · first
      | exact seg_bind_wrap (wpAny_rule (seg_bind_wrap (wpAny_standAt (seg_bind_wrap (T.self _ 0 s _ _ st (seg_again rfl loop))))))
      | (refine seg_bind_wrap (wpAny_rule ?_); show Seg _ A _ _ n s₀ _ ((standAt iter.pos >>= _).wrap _ _ _ _) [] s; exact seg_bind_wrap (wpAny_standAt (seg_bind_wrap (T.self _ 0 s _ _ st (seg_again rfl loop)))))
theorem boot_all' : bootBuiltins "all" = some (.builtin "all") := by decide +kernel
theorem boot_any' : bootBuiltins "any" = some (.builtin "any") := by decide +kernel
/-- the table has grown, or stands -/
def Tabd (P : Addr) (H1 H2 : Hp) : Prop := ∃ ps more : Array Value, H1 P = some (.tbl ps) ∧ H2 = upd H1 P (.tbl (ps ++ more)) ∧ TriplesOk (ps ++ more).toList
/-- all(..) stops at false, any(..) at true -/
def tGen (P : Addr) (b : Bool) (wi : TI) (g : TG) (tt : TT) (te : TE) (vs : List Nat) : TE := fun σ H Q => wi σ H fun J H1 => (∃ ps : Array Value, H1 P = some (.tbl ps) ∧ TriplesOk ps.toList) ∧ ∀ H2, Tabd P H1 H2 → ∃ W : Nat → Nat → Hp → Prop, (∃ m, W 0 m H2) ∧ GTurns J g tt te vs b σ (fun k H => Q (.bl k) H) W
theorem gen_made {c P : Addr} {elt tg iter : Expr} {ifs : List Expr} {scope : Scope} {own : List (Str × Nat)} {gpos : Pos} {wi : TI} {g : TG} {tt : TT} {te : TE} {b : Bool} {pins : List (Addr × Obj)} {σ : L2.St} {H : Hp} {s : Shared} {Q : VK} {Q' : Value → Shared → Prop}
    (hc : X.calm = true) (hdep : X.A.depth < recursionLimit) (hN : X.N.Nodup) (TB : GxR.TabB X.base X.mg c P) (hcode : X.env.code = .ref c) (ok : GenOk X.N X.env.scope scope own) (hi : PI X tg iter wi)
    (hg : ∀ (s : Shared) (H : Hp) (C : Addr) (code : Value) (fp : List Addr) (pn : List (Addr × Obj)), PG (gcx X (X.A.in1.in1.deeper (genEnv scope (cloFrom X.env.cells scope.names []) C code builtinsNs X.env)) s H (genEnv scope (cloFrom X.env.cells scope.names []) C code builtinsNs X.env) fp pn) tg g)
    (ht : ∀ (s : Shared) (H : Hp) (C : Addr) (code : Value) (fp : List Addr) (pn : List (Addr × Obj)), PTs (gcx X (X.A.in1.in1.deeper (genEnv scope (cloFrom X.env.cells scope.names []) C code builtinsNs X.env)) s H (genEnv scope (cloFrom X.env.cells scope.names []) C code builtinsNs X.env) fp pn) ifs tt)
    (he : ∀ (s : Shared) (H : Hp) (C : Addr) (code : Value) (fp : List Addr) (pn : List (Addr × Obj)), PE (gcx X (X.A.in1.in1.deeper (genEnv scope (cloFrom X.env.cells scope.names []) C code builtinsNs X.env)) s H (genEnv scope (cloFrom X.env.cells scope.names []) C code builtinsNs X.env) fp pn) elt te)
    (hs : ∀ x, genFold iter X.env x = pure x) (I : Inv X pins σ H s) (h : tGen P b wi g tt te (own.map (·.2)) σ H Q)
    (hQ : ∀ (Xg : Cx) (a : Addr) (gi n : Nat) (s5 : Shared), GAt X Xg (wipe σ (own.map (·.2))) b (fun k H => Q (.bl k) H) a gi n s5 →
      (∀ {pins : List (Addr × Obj)} {σ : L2.St} {H : Hp} {s : Shared}, Inv Xg pins σ H s → s.heap.IsGen a gi) →
      (∀ {pins' : List (Addr × Obj)} {σ' : L2.St} {H : Hp} {s : Shared} {k : Bool} {h' : Heap} {gs : GenState}, Inv Xg pins' σ' H s → Q (.bl k) H → gs.bare = true → (∀ b o, s.heap.get? b = some o → h'.get? b = some o) → EP X pins σ Q (.bool k) { s.setGen gi gs with heap := h' }) → Q' (.ref a) s5) :
    wpAny (model X.prog X.w) X.A (eval (.GeneratorExp elt [⟨tg, iter, ifs, 0⟩] scope gpos) X.env) Q' X.xe s := by
  have hfree : ∀ y ∈ scope.names, y.2 = .free → ∃ c, X.env.cells.lookup y.1 = some c := fun y hy e => by
    rcases ok.free y hy e with k | k
    · exact I.ok.has _ (.inl k)
    · exact I.ok.has _ (.inr k)
  refine wpAny_GeneratorExp_make ok.co (closure_ok hfree) ok.cell ok.dot ok.kind hdep (thn (hi.run pins s σ H _ I h) fun xv s1 h1 => thn h1 fun itv s2 h2 => ?_) hs
  obtain ⟨it, fp, tn, J, H2, rfl, I2, T, st2, f2, ⟨ps, hP, htr⟩, q⟩ := h2
  refine ⟨I2.nolimit, ?_⟩
  have hPs : s2.heap.get? P = some { cls := .none, data := .fields ps } := I2.hok P _ hP
  have hPlt : P < s2.heap.objs.size := Heap.lt_size hPs
  have cd : PySem.W.CodeHd s2.heap c P := TB.code.keeps fun b u e => I2.bk b u e
  have nP : ∀ b ∈ fp, b ≠ P := fun b hb e => by have := (f2 b hb).1; rw [e, hP] at this; cases this
  have cont : ∀ (code : Value) (h3 : Heap) (tk : Nat) (more : Array Value), Heap.ExtBut P s2.heap h3 → s2.heap.objs.size ≤ h3.objs.size → h3.get? P = some { cls := .none, data := .fields (ps ++ more) } → TriplesOk (ps ++ more).toList →
      wpAny (model X.prog X.w) X.A (builtinsFor X.env.globals X.env.builtins) (fun bi s₄ =>
        ∀ h', h'.Ns s₄.heap.objs.size (fun y => if y = ".0" then some (.ref it) else none) → Heap.SameBut s₄.heap.objs.size (s₄.heap.push { cls := .type "frame", data := .dict #[] }) h' →
          Q' (.ref h'.objs.size) { s₄ with
            gens := s₄.gens.push (.fresh (.compStart (.GeneratorExp elt [⟨tg, iter, ifs, 0⟩] scope gpos) 0 (.ref it) .none (genEnv scope (cloFrom X.env.cells scope.names []) s₄.heap.objs.size code bi X.env))),
            toks := s₄.toks + 1 + 1 + 1,
            heap := h'.push { cls := .type "generator", data := .fields #[.int s₄.gens.size 0, .str "<genexpr>" (s₄.toks + 1), .str (X.env.qual ++ "<genexpr>") (s₄.toks + 1 + 1)] } }) X.xe { s2 with heap := h3, toks := tk } := by
    intro code h3 tk more hx hsz hP3 ht3
    obtain ⟨bm, ob, e1, e2, e3, e4, e5, e6, e7, e8⟩ := TB.bm
    have keep3 : ∀ b u, b ≠ P → s2.heap.get? b = some u → h3.get? b = some u := fun b u hb e => hx b u hb e
    refine wpAny_builtinsFor (m := X.mg) (by rw [I2.ok.glob]; exact (I2.mod.glob.keeps I2.bk).extBut hx TB.gP) e1 e2 (keep3 _ _ e4 (I2.bk _ _ e5)) e6 e7 e8 ?_
    intro h' hn' sb
    have I3 : Inv X pins σ (upd H2 P (.tbl (ps ++ more))) { s2 with heap := h3, toks := tk } := GxR.inv_tab (g' := s2.gens) (d' := s2.drawn) I2 hP keep3 hP3 I2.bare
    generalize hH3 : upd H2 P (.tbl (ps ++ more)) = H3 at I3
    have q3 := q H3 ⟨ps, more, hP, hH3.symm, ht3⟩
    obtain ⟨W, ⟨m0, w0⟩, turns⟩ := q3
    have nH : ∀ b ∈ fp, H3 b = none := fun b hb => by rw [← hH3, upd_ne (nP b hb)]; exact (f2 b hb).1
    have st3 : tn 0 h3 := T.keep _ _ _ st2 fun b hb o e => keep3 b o (nP b hb) e
    have hfp : ∀ b ∈ fp, FpOk X pins H3 b ∧ b < h3.objs.size := fun b hb => by
      obtain ⟨o, e, _⟩ := T.obj _ _ st3 b hb
      exact ⟨⟨nH b hb, (f2 b hb).2⟩, Heap.lt_size e⟩
    have keep' : ∀ b o, h3.get? b = some o → h'.get? b = some o := fun b o e => sb.extBut b o (Nat.ne_of_lt (Heap.lt_size e)) (Heap.get?_push_of_some _ e)
    have hsz' : h'.objs.size = h3.objs.size + 1 := by rw [sb.1, Heap.size_push]
    generalize hgo : ({ cls := .type "generator", data := .fields #[.int s2.gens.size 0, .str "<genexpr>" (tk + 1), .str (X.env.qual ++ "<genexpr>") (tk + 1 + 1)] } : Obj) = go
    have hga : (h'.push go).get? h'.objs.size = some go := Heap.get?_push_size _ (by rw [← hgo]; rfl)
    have isg : ∀ {hh : Heap}, hh.get? h'.objs.size = some go → hh.IsGen h'.objs.size s2.gens.size := fun {hh} e => ⟨go, _, _, e, by rw [← hgo], by rw [← hgo], by rw [← hgo]⟩
    have keep5 : ∀ b o, h3.get? b = some o → (h'.push go).get? b = some o := fun b o e => Heap.get?_push_of_some _ (keep' b o e)
    have hbare5 : AllBare (s2.gens.push (.fresh (.compStart (.GeneratorExp elt [⟨tg, iter, ifs, 0⟩] scope gpos) 0 (.ref it) .none (genEnv scope (cloFrom X.env.cells scope.names []) h3.objs.size code builtinsNs X.env)))) := AllBare.push I2.bare rfl
    show Q' (.ref h'.objs.size) { s2 with gens := s2.gens.push (.fresh (.compStart (.GeneratorExp elt [⟨tg, iter, ifs, 0⟩] scope gpos) 0 (.ref it) .none (genEnv scope (cloFrom X.env.cells scope.names []) h3.objs.size code builtinsNs X.env))), toks := tk + 1 + 1 + 1, heap := h'.push go }
    generalize hce : genEnv scope (cloFrom X.env.cells scope.names []) h3.objs.size code builtinsNs X.env = ce at hbare5 ⊢
    generalize hs5 : ({ s2 with gens := s2.gens.push (.fresh (.compStart (.GeneratorExp elt [⟨tg, iter, ifs, 0⟩] scope gpos) 0 (.ref it) .none ce)), toks := tk + 1 + 1 + 1, heap := h'.push go } : Shared) = s5
    have Ig : Inv (gcx X (X.A.in1.in1.deeper ce) { s2 with heap := h3, toks := tk } H3 ce fp [(h'.objs.size, go)]) [] (wipe σ (own.map (·.2))) H3 s5 := by
      rw [← hce, ← hs5]
      refine gen_start (A := X.A.in1.in1) (m := fun y => if y = ".0" then some (.ref it) else none) I3 ok hN hfp I3.ok.frames (I3.ok.hd hc) keep5 (hn'.push _) rfl (by rw [← hce] at hbare5; rw [← hce]; exact hbare5) fun p hp => ?_
      rw [List.mem_singleton.mp hp]
      exact ⟨hga, by show h3.objs.size < h'.objs.size; omega, fun v e => by rw [← hgo] at e; cases e⟩
    have hpn : ∀ p ∈ [(h'.objs.size, go)], ∀ b ∈ fp, p.1 ≠ b := fun p hp b hb e => by
      rw [List.mem_singleton.mp hp] at e
      have := (hfp b hb).2
      have e : h'.objs.size = b := e
      rw [← e] at this
      have this : h'.objs.size < h3.objs.size := this
      omega
    have pg := hg { s2 with heap := h3, toks := tk } H3 h3.objs.size code fp [(h'.objs.size, go)]
    have pt := ht { s2 with heap := h3, toks := tk } H3 h3.objs.size code fp [(h'.objs.size, go)]
    have pe := he { s2 with heap := h3, toks := tk } H3 h3.objs.size code fp [(h'.objs.size, go)]
    rw [hce] at pg pt pe
    have hco : ce.scope.isCoroutine = false := by rw [← hce]; exact ok.co
    refine hQ (gcx X (X.A.in1.in1.deeper ce) { s2 with heap := h3, toks := tk } H3 ce fp [(h'.objs.size, go)]) h'.objs.size s2.gens.size (m0 + 1) s5 ⟨isg (by rw [← hs5]; exact hga), Ig.nolimit, Ig.bare, .fresh (.compStart (.GeneratorExp elt [⟨tg, iter, ifs, 0⟩] scope gpos) 0 (.ref it) .none ce), (by rw [← hs5]; exact Array.getElem?_push_size ..), fun s'' hh ho hb' => ⟨rfl, ?_⟩⟩ (fun {_ _ _ s'} I' => isg (hh := s'.heap) ?_) (fun {_ _ H' s' k hh gs} I' qq hb' kk => ?_)
    · refine gen_begin (A := X.A.in1.in1) hc hco T pg pt pe hpn turns m0 (m0 + 1) s'' s'' H3 (Nat.lt_succ_self _) w0 (inv_same Ig hh ho hb') ?_ nH
      rw [hh, ← hs5]
      exact T.keep _ _ _ st3 fun b _ o e => keep5 b o e
    · exact (I'.pin (h'.objs.size, go) (List.mem_append_left _ (List.mem_singleton.mpr rfl))).1
    · refine ⟨.bl k, H', ?_, rfl, qq⟩
      refine I3.call' (ch := fp) I'.os (I'.base.trans (Un.kept kk)) (I'.hok.kept kk) (allBare_setGen I'.bare hb') fun b hb => ⟨(f2 b hb).2.2.2.1, (f2 b hb).2.1, (f2 b hb).2.2.2.2.1, (f2 b hb).2.2.2.2.2⟩
  cases hf : codeAmong gpos ps.toList with
  | none =>
    refine wpAny_genexprCodeX hcode (cd.code hPs htr) (cd.tab hPs) hf fun c' h' tk hx hge hlt hco' _ htab' _ => ?_
    obtain ⟨o1, vs, f1, tf, fl, tg', inF, tx, tt', op, _, _, _, _, _, _, _, _, _, htr', _⟩ := hco'
    exact cont _ h' tk _ hx (Nat.le_trans hge (Nat.le_of_lt hlt)) htab'.2 htr'
  | some cv =>
    refine wpAny_genexprCode_hit hcode (cd.code hPs htr) hf ?_
    exact cont cv s2.heap s2.toks #[] (Heap.ExtBut.refl _ _) (Nat.le_refl _) (by simpa using hPs) (by simpa using htr)
theorem pe_all {c P : Addr} {elt tg iter : Expr} {ifs : List Expr} {scope : Scope} {own : List (Str × Nat)} {p pos gpos : Pos} {wi : TI} {g : TG} {tt : TT} {te : TE}
    (hc : X.calm = true) (hdep : X.A.depth < recursionLimit) (hN : X.N.Nodup) (hgl : Gl X "all") (hm : X.mg "all" = none) (TB : GxR.TabB X.base X.mg c P) (hcode : X.env.code = .ref c) (ok : GenOk X.N X.env.scope scope own) (hi : PI X tg iter wi)
    (hg : ∀ (s : Shared) (H : Hp) (C : Addr) (code : Value) (fp : List Addr) (pn : List (Addr × Obj)), PG (gcx X (X.A.in1.in1.deeper (genEnv scope (cloFrom X.env.cells scope.names []) C code builtinsNs X.env)) s H (genEnv scope (cloFrom X.env.cells scope.names []) C code builtinsNs X.env) fp pn) tg g)
    (ht : ∀ (s : Shared) (H : Hp) (C : Addr) (code : Value) (fp : List Addr) (pn : List (Addr × Obj)), PTs (gcx X (X.A.in1.in1.deeper (genEnv scope (cloFrom X.env.cells scope.names []) C code builtinsNs X.env)) s H (genEnv scope (cloFrom X.env.cells scope.names []) C code builtinsNs X.env) fp pn) ifs tt)
    (he : ∀ (s : Shared) (H : Hp) (C : Addr) (code : Value) (fp : List Addr) (pn : List (Addr × Obj)), PE (gcx X (X.A.in1.in1.deeper (genEnv scope (cloFrom X.env.cells scope.names []) C code builtinsNs X.env)) s H (genEnv scope (cloFrom X.env.cells scope.names []) C code builtinsNs X.env) fp pn) elt te)
    (hs : ∀ x, genFold iter X.env x = pure x) : PE X (.Call (.Name "all" p) [.GeneratorExp elt [⟨tg, iter, ifs, 0⟩] scope gpos] [] pos) (tGen P false wi g tt te (own.map (·.2))) := by
  refine ⟨fun pins s σ H Q I h => ?_⟩
  refine wpAny_Call_Name_kw (ld_blt I hgl hm boot_all' ?_)
  refine PyProof.Rows.callWith_builtin1 ?_ rfl (by rfl)
  show wpAny _ _ (spliced ((false, eval (.GeneratorExp elt [⟨tg, iter, ifs, 0⟩] scope gpos) X.env) :: backTo pos (starEach [] X.env))) _ _ s
  refine Calls.spliced_cons (gen_made hc hdep hN TB hcode ok hi hg ht he hs I h fun Xg a gi n s5 hG hgen hfin => ?_)
  refine Calls.spliced_nil ?_
  refine call_function_tree F.kind_all F.plain_all F.entry_all (F.args_all1 _) ?_
  unfold Builtin.«all»
  refine wpAny_bind (m := oneArg "all" _) (wpAny_pure ?_)
  refine wpAny_bind (wpAny_pyIter_gen hG.isg ?_)
  refine wpAny_pure ⟨plainId_quiet F.plain_all_loop _, codeAny_mono (gen_use (Rr := fun k s' => EP X pins σ Q (.bool k) s') (I.ok.hd hc) hdep hgen hfin (fun s R => all_entry s R) n s5 hG) fun r s' hr => ?_⟩
  match r, hr with
  | .ok (.ret (.bool k)), hr => exact hr
theorem pe_any {c P : Addr} {elt tg iter : Expr} {ifs : List Expr} {scope : Scope} {own : List (Str × Nat)} {p pos gpos : Pos} {wi : TI} {g : TG} {tt : TT} {te : TE}
    (hc : X.calm = true) (hdep : X.A.depth < recursionLimit) (hN : X.N.Nodup) (hgl : Gl X "any") (hm : X.mg "any" = none) (TB : GxR.TabB X.base X.mg c P) (hcode : X.env.code = .ref c) (ok : GenOk X.N X.env.scope scope own) (hi : PI X tg iter wi)
    (hg : ∀ (s : Shared) (H : Hp) (C : Addr) (code : Value) (fp : List Addr) (pn : List (Addr × Obj)), PG (gcx X (X.A.in1.in1.deeper (genEnv scope (cloFrom X.env.cells scope.names []) C code builtinsNs X.env)) s H (genEnv scope (cloFrom X.env.cells scope.names []) C code builtinsNs X.env) fp pn) tg g)
    (ht : ∀ (s : Shared) (H : Hp) (C : Addr) (code : Value) (fp : List Addr) (pn : List (Addr × Obj)), PTs (gcx X (X.A.in1.in1.deeper (genEnv scope (cloFrom X.env.cells scope.names []) C code builtinsNs X.env)) s H (genEnv scope (cloFrom X.env.cells scope.names []) C code builtinsNs X.env) fp pn) ifs tt)
    (he : ∀ (s : Shared) (H : Hp) (C : Addr) (code : Value) (fp : List Addr) (pn : List (Addr × Obj)), PE (gcx X (X.A.in1.in1.deeper (genEnv scope (cloFrom X.env.cells scope.names []) C code builtinsNs X.env)) s H (genEnv scope (cloFrom X.env.cells scope.names []) C code builtinsNs X.env) fp pn) elt te)
    (hs : ∀ x, genFold iter X.env x = pure x) : PE X (.Call (.Name "any" p) [.GeneratorExp elt [⟨tg, iter, ifs, 0⟩] scope gpos] [] pos) (tGen P true wi g tt te (own.map (·.2))) := by
  refine ⟨fun pins s σ H Q I h => ?_⟩
  refine wpAny_Call_Name_kw (ld_blt I hgl hm boot_any' ?_)
  refine PyProof.Rows.callWith_builtin1 ?_ rfl (by rfl)
  show wpAny _ _ (spliced ((false, eval (.GeneratorExp elt [⟨tg, iter, ifs, 0⟩] scope gpos) X.env) :: backTo pos (starEach [] X.env))) _ _ s
  refine Calls.spliced_cons (gen_made hc hdep hN TB hcode ok hi hg ht he hs I h fun Xg a gi n s5 hG hgen hfin => ?_)
  refine Calls.spliced_nil ?_
  refine call_function_tree F.kind_any F.plain_any F.entry_any (F.args_any1 _) ?_
  unfold Builtin.«any»
  refine wpAny_bind (m := oneArg "any" _) (wpAny_pure ?_)
  refine wpAny_bind (wpAny_pyIter_gen hG.isg ?_)
  refine wpAny_pure ⟨plainId_quiet F.plain_any_loop _, codeAny_mono (gen_use (Rr := fun k s' => EP X pins σ Q (.bool k) s') (I.ok.hd hc) hdep hgen hfin (fun s R => any_entry s R) n s5 hG) fun r s' hr => ?_⟩
  match r, hr with
  | .ok (.ret (.bool k)), hr => exact hr
end
end PB

namespace PB
open PySem PySem.Spec PyProof.Rows L2 GenW
variable {Ts : List Addr}

def truS : Xv → Option Bool
  | .d (.bool c) => some c
  | .d (.int i) => some (i != 0)
  | .d .none => some false
  | _ => none
theorem truS_of {K : PySem.W.Frag} {lv : Addr → Prop} {mu : List Addr} {H : Hp} {x : Xv} {v : V} {k : Bool} (h : DenX K lv mu H x v) (e : truS x = some k) : TruS v k := by
  cases x with
  | r n => cases e
  | d d =>
    unfold DenX at h
    cases d with
    | bool c => unfold DenD at h; subst h; cases e; exact rfl
    | int i => unfold DenD at h; subst h; cases e; exact rfl
    | none => unfold DenD at h; subst h; cases e; exact rfl
    | _ => cases e
def gLp (b : Bool) (t : Tg) (pt : Env0' → Sto → R Bool) (pe : Me) (ρ : Env0') : List Xv → Sto → R Bool
  | [], S => .ok (!b) S
  | x :: xs, S => match asgT t x ρ with
    | none => .bad
    | some ρ1 => (pt ρ1 S).bind fun c S1 => if c then (pe ρ1 S1).bind (fun y S2 => match truS y with
        | none => .bad
        | some k => if k = b then .ok b S2 else gLp b t pt pe ρ xs S2) else gLp b t pt pe ρ xs S1
def pGen (b : Bool) (vs : List Nat) (t : Tg) (it : Mes) (pt : Env0' → Sto → R Bool) (pe : Me) : Me := fun ρ S => (it ρ S).bind fun xs S1 => (nox (gLp b t pt pe (wipeR ρ vs) xs S1)).bind fun k S2 => .ok (.d (.bool k)) S2
section
variable {K : PySem.W.Frag} {S : Sto} {mu hs : List Addr} {H H2 : Hp} {P : Addr}
theorem Go.tabd (t : Tabd P H H2) : Go S mu hs H S mu H2 := by
  obtain ⟨ps, more, hP, rfl, ht⟩ := t
  have ne : ∀ {a : Addr} {o : HO}, H a = some o → (∀ ps, o ≠ .tbl ps) → a ≠ P := fun {a o} q n e => by rw [e, hP] at q; cases q; exact n _ rfl
  exact {
    pre := fun _ _ h => h
    tup := fun a vs h => by rw [upd_ne (ne h fun _ => nofun)]; exact h
    frz := fun a o u h => by rw [upd_ne (ne h fun _ => nofun)]; exact h
    tbl := fun a qs h => by
      by_cases e : a = P
      · subst e; rw [hP] at h; cases h; exact ⟨more, upd_same⟩
      · exact ⟨#[], by rw [upd_ne e, h]; simp⟩
    stay := fun a o h nt _ => by rw [upd_ne (ne h nt)]; exact h
    nlv := fun _ _ n => n
    hid := fun a _ o h nt => by rw [upd_ne (ne h nt)]; exact h
    hadn := fun a h => by
      by_cases e : a = P
      · rw [e, upd_same]; exact nofun
      · rw [upd_ne e]; exact h }
theorem StoOk.tabd (t : Tabd P H H2) (s : StoOk K Ts S mu hs H) : StoOk K Ts S mu hs H2 := by
  have g := Go.tabd (S := S) (mu := mu) (hs := hs) t
  obtain ⟨ps, more, hP, rfl, ht⟩ := t
  refine ⟨s.len, s.inj, fun r m a e q => MOk.go g.keep (fun _ _ h => h) (fun hm o' h => ?_) (s.ok r m a e q), fun a ha => g.hadn a (s.hid a ha), s.hidn, fun P' hP' => ?_⟩
  · have k := s.ok r m a e q
    have na : a ≠ P := fun z => by
      rw [z] at k
      cases m with
      | lst xs => obtain ⟨_, vs, e1, _⟩ := k; rw [hP] at e1; cases e1
      | dct xs => obtain ⟨vs, e1, _⟩ := k; rw [hP] at e1; cases e1
      | rol xs => cases hm
      | dead => cases hm
    rw [upd_ne na]; exact h
  · by_cases e : P' = P
    · subst e; exact ⟨ps ++ more, upd_same, ht⟩
    · obtain ⟨qs, h1, h2⟩ := s.tab P' hP'
      exact ⟨qs, by rw [upd_ne e]; exact h1, h2⟩
end
section
variable {X : Cx} {E : XW}
theorem gen_red {P : Addr} {b : Bool} {vs : List Nat} {t : Tg} {it : Mes} {pt : Env0' → Sto → R Bool} {pe : Me} {g : TG} {σ : L2.St} {H : Hp} {Q : VK} (hP : P ∈ E.ts) (hgt : GOk X.K g t) (hsub : ∀ i ∈ t.ix, i ∈ vs)
    (h : tD X.K E (pGen b vs t it pt pe) σ H Q) : tGen P b (iD X.K E it) g (tDt X.K E.no pt) (tD X.K E.no pe) vs σ H Q := by
  obtain ⟨ρ, S, mu, hs, en, s, h⟩ := h
  refine ⟨ρ, S, mu, hs, en, s, Post.mono (Post.bind h) fun xs S1 mu1 H1 g1 s1 z J ji => ?_⟩
  obtain ⟨_, _, z⟩ := z
  have enw := ((en.go g1).wipe vs)
  generalize hρ : wipeR ρ vs = ρw at z enw
  refine ⟨s1.tab P hP, fun Ht td => ?_⟩
  refine ⟨fun i m H' => m = xs.length - i ∧ i ≤ xs.length ∧ ∃ S' mu', Go S1 mu1 hs H1 S' mu' H' ∧ StoOk X.K E.ts S' mu' hs H' ∧
    gLp b t pt pe ρw xs S1 = gLp b t pt pe ρw (xs.drop i) S', ⟨xs.length, by simp, Nat.zero_le _, S1, mu1, Go.tabd td, s1.tabd td, by simp⟩, ?_⟩
  rintro i m H' ⟨rfl, hi, S', mu', gg, ss, eq⟩
  obtain ⟨jl, ji'⟩ := ji
  obtain ⟨jg, js, jy⟩ := ji' E.ts [] S' mu' H' (fun d hd => by cases hd) gg.w ss
  by_cases hlt : i < xs.length
  · refine .inr ⟨jg i hlt, _, fun H2 w => ⟨xs.length - (i + 1), by omega, w⟩, fun v H2 y => ?_⟩
    obtain ⟨gy, sy, x, ex, dx⟩ := jy i v H2 hlt y
    have gy : Go S' mu' hs H' S' mu' H2 := gy
    rw [drop_get ex] at eq
    have eq0 := eq
    rw [eq] at z
    unfold gLp at z
    cases ea : asgT t x ρw with
    | none => rw [ea] at z; exact z.elim
    | some ρ1 =>
      rw [ea] at z
      dsimp only at z
      refine hgt x ρw ρ1 S' mu' hs H2 (wipe σ vs) v _ (enw.go (gg.trans gy)) dx ea fun σ2 en2 off => ⟨wipe_off off hsub, ?_⟩
      refine ⟨ρ1, S', mu', hs, en2, sy, ?_⟩
      cases ep : pt ρ1 S' with
      | bad => rw [ep] at z; exact z.elim
      | exc c as S2 => rw [ep] at z; exact z.elim
      | ok c S2 =>
        rw [ep] at z
        simp only [R.bind] at z
        intro mu3 H3 g3 s3
        cases c with
        | false =>
          simp only [Bool.false_eq_true, if_false] at z ⊢
          refine ⟨True.intro, hlt, S2, mu3, (gg.trans gy).trans g3, s3, ?_⟩
          rw [eq0]
          conv => lhs; unfold gLp
          rw [ea]; dsimp only; rw [ep]; simp only [R.bind, Bool.false_eq_true, if_false]
        | true =>
          simp only [if_true] at z ⊢
          refine ⟨ρ1, S2, mu3, hs, en2.go g3, s3, ?_⟩
          cases ee : pe ρ1 S2 with
          | bad => rw [ee] at z; exact z.elim
          | exc c as S4 => rw [ee] at z; exact z.elim
          | ok yv S4 =>
            rw [ee] at z
            intro mu4 H4 g4 s4 w hw
            dsimp only at z
            cases et : truS yv with
            | none => rw [et] at z; exact z.elim
            | some k =>
              rw [et] at z
              refine ⟨k, truS_of hw et, ?_⟩
              dsimp only at z
              by_cases hk : k = b
              · rw [if_pos hk] at z ⊢
                have z : Post X.K E S1 mu1 hs H1 (fun x S' mu' H' => ∀ v, DenX X.K (live S' mu' hs) mu' H' x v → Q v H') (.ok (.d (.bool b)) S4) := z
                exact z mu4 H4 (((gg.trans gy).trans g3).trans g4) s4 _ (by unfold DenX DenD; rfl)
              · rw [if_neg hk] at z ⊢
                refine ⟨True.intro, hlt, S4, mu4, ((gg.trans gy).trans g3).trans g4, s4, ?_⟩
                rw [eq0]
                conv => lhs; unfold gLp
                rw [ea]; dsimp only; rw [ep]; simp only [R.bind, if_true, ee, et, if_neg hk]
  · have ei : i = xs.length := by omega
    subst ei
    refine .inl ⟨js, ?_⟩
    rw [List.drop_length] at eq
    rw [eq] at z
    unfold gLp at z
    have z : Post X.K E S1 mu1 hs H1 (fun x S' mu' H' => ∀ v, DenX X.K (live S' mu' hs) mu' H' x v → Q v H') (.ok (.d (.bool !b)) S') := z
    exact z mu' H' gg ss _ (by unfold DenX DenD; rfl)
end
end PB

namespace PB
open PySem PySem.Spec PyProof.Rows L2

def lcLoop2 (t : Tg) (pt : Env0' → Sto → R Bool) (it1 : Mes) (t1 : Tg) (pt1 : Env0' → Sto → R Bool) (pe : Me) (ρ : Env0') : List Xv → List D → Sto → R (List D)
  | [], acc, S => .ok acc S
  | x :: xs, acc, S => match asgT t x ρ with
    | none => .bad
    | some ρ1 => (pt ρ1 S).bind fun b S1 => if b then (it1 ρ1 S1).bind (fun ys S2 => if acc.length + ys.length ≤ sizeLine then (lcLoop t1 pt1 pe (wipeR ρ1 t1.ix) ys acc S2).bind fun acc1 S3 => lcLoop2 t pt it1 t1 pt1 pe ρ xs acc1 S3 else .bad) else lcLoop2 t pt it1 t1 pt1 pe ρ xs acc S1
def pLc2 (vs : List Nat) (t : Tg) (it : Mes) (pt : Env0' → Sto → R Bool) (t1 : Tg) (it1 : Mes) (pt1 : Env0' → Sto → R Bool) (pe : Me) : Me := fun ρ S => (it ρ S).bind fun xs S1 => (nox (lcLoop2 t pt it1 t1 pt1 pe (wipeR ρ vs) xs [] S1)).bind fun ds S2 => .ok (.d (.list ds)) S2
def pLc2R (vs : List Nat) (t : Tg) (it : Mes) (pt : Env0' → Sto → R Bool) (t1 : Tg) (it1 : Mes) (pt1 : Env0' → Sto → R Bool) (pe : Me) : Me := fun ρ S => (it ρ S).bind fun xs S1 => (nox (lcLoop2 t pt it1 t1 pt1 pe (wipeR ρ vs) xs [] S1)).bind fun ds S2 => .ok (.r S2.length) (S2 ++ [.lst (ds.map .d)])
section
variable {X : Cx} {E : XW}
/-- the loop of a comprehension of two clauses: what is done with the list at the end -/
theorem lc2_any {vs : List Nat} {t t1 : Tg} {it it1 : Mes} {pt pt1 : Env0' → Sto → R Bool} {pe : Me} {g g' : TG} {σ : L2.St} {H : Hp} {Q : VK} {fin : List D → Sto → R Xv} (hgt : GOk X.K g t) (hgt1 : GOk X.K g' t1) (hsub : ∀ i ∈ t.ix, i ∈ vs)
    (hfin : ∀ (ds : List D) (accV : List V) (S1 : Sto) (mu1 hs : List Addr) (H1 : Hp) (S' : Sto) (mu' : List Addr) (H' : Hp) (D : Addr), H1 D = none → D ∉ hs → Go S1 mu1 hs H1 S' mu' H' → StoOk X.K E.ts S' mu' (D :: hs) H' → H' D = some (.lst accV) → DenL X.K (live S' mu' (D :: hs)) H' ds accV → ds.length ≤ sizeLine →
      Post X.K E S1 mu1 hs H1 (fun x S' mu' H' => ∀ v, DenX X.K (live S' mu' hs) mu' H' x v → Q v H') (fin ds S') → Q (.ref D) H')
    (h : tD X.K E (fun ρ S => (it ρ S).bind fun xs S1 => (nox (lcLoop2 t pt it1 t1 pt1 pe (wipeR ρ vs) xs [] S1)).bind fin) σ H Q) : tLc2 (iD X.K E it) g (tDt X.K E.no pt) (iD X.K E.no it1) g' (tDt X.K E.no pt1) (tD X.K E.no pe) vs t1.ix σ H Q := by
  obtain ⟨ρ, S, mu, hs, en, s, h⟩ := h
  refine ⟨ρ, S, mu, hs, en, s, Post.mono (Post.bind h) fun xs S1 mu1 H1 g1 s1 z J ji D hD => ?_⟩
  obtain ⟨_, _, z⟩ := z
  have nD : D ∉ hs := fun q => s1.hid D q hD
  have enw := ((en.go g1).wipe vs)
  generalize hρ : wipeR ρ vs = ρw at z enw
  refine ⟨fun i m H' => m = xs.length - i ∧ i ≤ xs.length ∧ ∃ acc accV S' mu', Go S1 mu1 hs H1 S' mu' H' ∧ StoOk X.K E.ts S' mu' (D :: hs) H' ∧ H' D = some (.lst accV) ∧ DenL X.K (live S' mu' (D :: hs)) H' acc accV ∧ acc.length ≤ sizeLine ∧
    lcLoop2 t pt it1 t1 pt1 pe ρw xs [] S1 = lcLoop2 t pt it1 t1 pt1 pe ρw (xs.drop i) acc S', ⟨xs.length, by simp, Nat.zero_le _, [], [], S1, mu1, Go.updFresh Go.refl hD s1.hid _, s1.hide hD _, upd_same, by unfold DenL; rfl, by simp, by simp⟩, ?_⟩
  rintro i m H' ⟨rfl, hi, acc, accV, S', mu', gg, ss, hDv, dl, la, eq⟩
  obtain ⟨jl, ji'⟩ := ji
  obtain ⟨jg, js, jy⟩ := ji' E.ts [D] S' mu' H' (fun d hd => by rw [List.mem_singleton.mp hd]; exact hD) gg.w ss
  by_cases hlt : i < xs.length
  · refine .inr ⟨jg i hlt, fun H2 => ∃ acc accV S' mu', Go S1 mu1 hs H1 S' mu' H2 ∧ StoOk X.K E.ts S' mu' (D :: hs) H2 ∧ H2 D = some (.lst accV) ∧ DenL X.K (live S' mu' (D :: hs)) H2 acc accV ∧ acc.length ≤ sizeLine ∧
      lcLoop2 t pt it1 t1 pt1 pe ρw xs [] S1 = lcLoop2 t pt it1 t1 pt1 pe ρw (xs.drop (i + 1)) acc S', fun H2 w => ⟨xs.length - (i + 1), by omega, rfl, hlt, w⟩, fun v H2 y => ?_⟩
    obtain ⟨gy, sy, x, ex, dx⟩ := jy i v H2 hlt y
    rw [drop_get ex] at eq
    have eq0 := eq
    rw [eq] at z
    unfold lcLoop2 at z
    cases ea : asgT t x ρw with
    | none => rw [ea] at z; exact z.elim
    | some ρ1 =>
      rw [ea] at z
      dsimp only at z
      have kx : Keep X.K (live S1 mu1 hs) (live S' mu' ([D] ++ hs)) H1 H2 := by
        have k1 := gg.keepX (K := X.K) (ex := [D]) (fun d hd => by rw [List.mem_singleton.mp hd]; exact hD)
        have k2 := gy.keep (K := X.K)
        exact ⟨fun a ws q => k2.tup a ws (k1.tup a ws q), fun a ws q n => let ⟨q1, n1⟩ := k1.lst a ws q n; k2.lst a ws q1 n1, fun a ws q n => let ⟨q1, n1⟩ := k1.rd a ws q n; k2.rd a ws q1 n1⟩
      refine hgt x ρw ρ1 S' mu' ([D] ++ hs) H2 (wipe σ vs) v _ (kx.env (fun r a q => gg.pre r a q) enw) dx ea fun σ2 en2 off => ⟨wipe_off off hsub, ?_⟩
      refine ⟨ρ1, S', mu', [D] ++ hs, en2, sy, ?_⟩
      cases ep : pt ρ1 S' with
      | bad => rw [ep] at z; exact z.elim
      | exc c as S2 => rw [ep] at z; exact z.elim
      | ok b S2 =>
        rw [ep] at z
        simp only [R.bind] at z
        intro mu3 H3 g3 s3
        have hD3 := g3.hid D (List.mem_cons_self ..) _ (gy.hid D (List.mem_cons_self ..) _ hDv (fun _ => nofun)) (fun _ => nofun)
        have o3 := (gg.trans (gy.show sy nD)).trans (g3.show s3 nD)
        have dl3 := DenL.keep g3.keep _ _ (DenL.keep gy.keep _ _ dl)
        cases b with
        | false =>
          simp only [Bool.false_eq_true, if_false] at z ⊢
          refine ⟨acc, accV, S2, mu3, o3, s3, hD3, dl3, la, ?_⟩
          rw [eq0]
          conv => lhs; unfold lcLoop2
          rw [ea]; dsimp only; rw [ep]; simp only [R.bind, Bool.false_eq_true, if_false]
        | true =>
          simp only [if_true] at z ⊢
          refine ⟨ρ1, S2, mu3, [D] ++ hs, en2.go g3, s3, ?_⟩
          cases ei : it1 ρ1 S2 with
          | bad => rw [ei] at z; exact z.elim
          | exc c as S4 => rw [ei] at z; exact z.elim
          | ok ys S4 =>
            rw [ei] at z
            simp only [R.bind] at z
            by_cases hsz : acc.length + ys.length ≤ sizeLine
            case neg => rw [if_neg hsz] at z; exact z.elim
            rw [if_pos hsz] at z
            intro mu4 H4 g4 s4 J1 jj
            have hD4 := g4.hid D (List.mem_cons_self ..) _ hD3 (fun _ => nofun)
            have o4 := o3.trans (g4.show s4 nD)
            have dl4 := DenL.keep g4.keep _ _ dl3
            have en4 := ((en2.go g3).go g4).wipe t1.ix
            generalize hρ1 : wipeR ρ1 t1.ix = ρv at z en4
            refine ⟨fun j k H' => k = ys.length - j ∧ j ≤ ys.length ∧ ∃ acc' accV' S' mu', Go S1 mu1 hs H1 S' mu' H' ∧ GoW S4 mu4 ([D] ++ hs) H4 S' mu' H' ∧ StoOk X.K E.ts S' mu' ([D] ++ hs) H' ∧ H' D = some (.lst accV') ∧ DenL X.K (live S' mu' ([D] ++ hs)) H' acc' accV' ∧ acc'.length ≤ acc.length + j ∧
              lcLoop t1 pt1 pe ρv ys acc S4 = lcLoop t1 pt1 pe ρv (ys.drop j) acc' S', ⟨ys.length, by simp, Nat.zero_le _, acc, accV, S4, mu4, o4, Go.refl.w, s4, hD4, dl4, Nat.le_refl _, by simp⟩, ?_⟩
            rintro j k H5 ⟨rfl, hj, acc5, accV5, S5, mu5, o5, w5, s5, hD5, dl5, l5, eq5⟩
            obtain ⟨kl, kj'⟩ := jj
            obtain ⟨kg, ks, ky⟩ := kj' E.ts [] S5 mu5 H5 (fun d hd => by cases hd) w5 s5
            by_cases hjt : j < ys.length
            · refine .inr ⟨kg j hjt, _, fun H2 w => ⟨ys.length - (j + 1), by omega, w⟩, fun v1 H6 y1 => ?_⟩
              obtain ⟨gy1, sy1, x1, ex1, dx1⟩ := ky j v1 H6 hjt y1
              rw [drop_get ex1] at eq5
              have eq50 := eq5
              rw [eq5] at z
              unfold lcLoop at z
              cases ea1 : asgT t1 x1 ρv with
              | none => rw [ea1] at z; exact z.elim
              | some ρ6 =>
                rw [ea1] at z
                dsimp only at z
                have k6 : Keep X.K (live S4 mu4 ([D] ++ hs)) (live S5 mu5 ([D] ++ hs)) H4 H6 := by
                  have k1 := w5.keep (K := X.K)
                  have k2 := gy1.keep (K := X.K)
                  exact ⟨fun a ws q => k2.tup a ws (k1.tup a ws q), fun a ws q n => let ⟨q1, n1⟩ := k1.lst a ws q n; k2.lst a ws q1 n1, fun a ws q n => let ⟨q1, n1⟩ := k1.rd a ws q n; k2.rd a ws q1 n1⟩
                refine hgt1 x1 ρv ρ6 S5 mu5 ([D] ++ hs) H6 (wipe σ2 t1.ix) v1 _ (k6.env (fun r a q => w5.pre r a q) en4) dx1 ea1 fun σ6 en6 off6 => ⟨wipe_off off6 fun _ q => q, ?_⟩
                refine ⟨ρ6, S5, mu5, [D] ++ hs, en6, sy1, ?_⟩
                cases ep1 : pt1 ρ6 S5 with
                | bad => rw [ep1] at z; exact z.elim
                | exc c as S7 => rw [ep1] at z; exact z.elim
                | ok b1 S7 =>
                  rw [ep1] at z
                  simp only [R.bind] at z
                  intro mu7 H7 g7 s7
                  have hD7 := g7.hid D (List.mem_cons_self ..) _ (gy1.hid D (List.mem_cons_self ..) _ hD5 (fun _ => nofun)) (fun _ => nofun)
                  have o7 := (o5.trans (gy1.show sy1 nD)).trans (g7.show s7 nD)
                  have w7 := (w5.go gy1).go g7
                  have dl7 := DenL.keep g7.keep _ _ (DenL.keep gy1.keep _ _ dl5)
                  cases b1 with
                  | false =>
                    simp only [Bool.false_eq_true, if_false] at z ⊢
                    refine ⟨True.intro, hjt, acc5, accV5, S7, mu7, o7, w7, s7, hD7, dl7, by omega, ?_⟩
                    rw [eq50]
                    conv => lhs; unfold lcLoop
                    rw [ea1]; dsimp only; rw [ep1]; simp only [R.bind, Bool.false_eq_true, if_false]
                  | true =>
                    simp only [if_true] at z ⊢
                    refine ⟨ρ6, S7, mu7, [D] ++ hs, en6.go g7, s7, ?_⟩
                    cases ee : pe ρ6 S7 with
                    | bad => rw [ee] at z; exact z.elim
                    | exc c as S8 => rw [ee] at z; exact z.elim
                    | ok yv S8 =>
                      rw [ee] at z
                      intro mu8 H8 g8 s8 w hw
                      cases yv with
                      | r n => exact z.elim
                      | d d =>
                        have hD8 := g8.hid D (List.mem_cons_self ..) _ hD7 (fun _ => nofun)
                        have el := dl7.length
                        refine ⟨accV5, hD8, ?_, True.intro, hjt, acc5 ++ [d], accV5 ++ [w], S8, mu8, ?_, ?_, s8.updHid _ hD8, upd_same, ?_, by simp; omega, ?_⟩
                        · omega
                        · exact Go.updFresh (o7.trans (g8.show s8 nD)) hD s1.hid _
                        · exact (w7.go g8).upd (List.mem_cons_self ..) hD8 _
                        · refine DenL.append (DenL.keep (keep_updHid _ hD8) _ _ (DenL.keep g8.keep _ _ dl7)) ?_
                          unfold DenL
                          exact ⟨w, [], rfl, DenD.keep (keep_updHid _ hD8) _ _ hw, by unfold DenL; rfl⟩
                        · rw [eq50]
                          conv => lhs; unfold lcLoop
                          rw [ea1]; dsimp only; rw [ep1]; simp only [R.bind, if_true, ee]
            · have ej : j = ys.length := by omega
              subst ej
              refine .inl ⟨ks, acc5, accV5, S5, mu5, o5, s5, hD5, dl5, by omega, ?_⟩
              rw [List.drop_length] at eq5
              rw [eq0]
              conv => lhs; unfold lcLoop2
              rw [ea]; dsimp only; rw [ep]; simp only [R.bind, if_true, ei, if_pos hsz, hρ1, eq5]
              conv => lhs; unfold lcLoop
  · have ei : i = xs.length := by omega
    subst ei
    refine .inl ⟨js, ?_⟩
    rw [List.drop_length] at eq
    rw [eq] at z
    unfold lcLoop2 at z
    exact hfin acc accV S1 mu1 hs H1 S' mu' H' D hD nD gg ss hDv dl la z
theorem lc2_red {vs : List Nat} {t t1 : Tg} {it it1 : Mes} {pt pt1 : Env0' → Sto → R Bool} {pe : Me} {g g' : TG} {σ : L2.St} {H : Hp} {Q : VK} (hgt : GOk X.K g t) (hgt1 : GOk X.K g' t1) (hsub : ∀ i ∈ t.ix, i ∈ vs)
    (h : tD X.K E (pLc2 vs t it pt t1 it1 pt1 pe) σ H Q) : tLc2 (iD X.K E it) g (tDt X.K E.no pt) (iD X.K E.no it1) g' (tDt X.K E.no pt1) (tD X.K E.no pe) vs t1.ix σ H Q :=
  lc2_any hgt hgt1 hsub (fun ds accV S1 mu1 hs H1 S' mu' H' D hD nD gg ss hDv dl hl z => by
    have z : Post X.K E S1 mu1 hs H1 (fun x S' mu' H' => ∀ v, DenX X.K (live S' mu' hs) mu' H' x v → Q v H') (.ok (.d (.list ds)) S') := z
    refine z mu' H' gg ss.show _ ?_
    unfold DenX DenD
    refine ⟨D, accV, rfl, hDv, ?_, hl, DenL.keep keep_show _ _ dl⟩
    rintro (q | ⟨r, m, e, hm, q⟩)
    · exact nD q
    · exact ss.hidn D (List.mem_cons_self ..) r m e hm q) h
theorem lc2R_red {vs : List Nat} {t t1 : Tg} {it it1 : Mes} {pt pt1 : Env0' → Sto → R Bool} {pe : Me} {g g' : TG} {σ : L2.St} {H : Hp} {Q : VK} (hgt : GOk X.K g t) (hgt1 : GOk X.K g' t1) (hsub : ∀ i ∈ t.ix, i ∈ vs)
    (h : tD X.K E (pLc2R vs t it pt t1 it1 pt1 pe) σ H Q) : tLc2 (iD X.K E it) g (tDt X.K E.no pt) (iD X.K E.no it1) g' (tDt X.K E.no pt1) (tD X.K E.no pe) vs t1.ix σ H Q :=
  lc2_any hgt hgt1 hsub (fun ds accV S1 mu1 hs H1 S' mu' H' D hD nD gg ss hDv dl hl z => by
    have k := keep_reveal (o := .lst (ds.map .d)) ss rfl
    refine z _ H' (Go.reveal gg hD ss.len) (ss.reveal rfl nD ⟨by simpa using hl, accV, hDv, DenL.xs (DenL.keep k _ _ dl)⟩) _ ⟨D, rfl, ?_⟩
    rw [← ss.len]; exact get_snoc_new) h
end
end PB

namespace PB
open PySem PySem.Spec PyProof.Rows L2
variable {Ts : List Addr}

def fOr (f g : List Xv → Sto → R Xv) : List Xv → Sto → R Xv := fun xs S => match f xs S with
  | .bad => g xs S
  | r => r
section
variable {X : Cx} {E : XW}
theorem c_or {f : Value} {a b : List Xv → Sto → R Xv} (h1 : CallR X f (rB X.K E a)) (h2 : CallR X f (rB X.K E b)) : CallR X f (rB X.K E (fOr a b)) := CallR.imp (CallR.or h1 h2) fun vs H Q h => by
  obtain ⟨xs, S, mu, hs, s, hx, h⟩ := h
  unfold fOr at h
  cases e : a xs S with
  | bad => rw [e] at h; exact .inr ⟨xs, S, mu, hs, s, hx, h⟩
  | ok x S' => rw [e] at h; exact .inl ⟨xs, S, mu, hs, s, hx, by rw [e]; exact h⟩
  | exc c as S' => rw [e] at h; exact .inl ⟨xs, S, mu, hs, s, hx, by rw [e]; exact h⟩
theorem cls_ty {t : Ty} : ClsV (.ty t.nm) (.type t.nm) := by first | exact .ty | exact ⟨rfl⟩ | exact rfl | constructor
theorem e_isi {a : Expr} {pa : Me} {t : Ty} {x : Str} {p p2 pos : Pos} (hg : Gl X "isinstance") (hm : X.mg "isinstance" = none) (hgT : Gl X x) (hmT : X.mg x = none) (hvT : bootBuiltins x = some (.type t.nm)) (hn : x ≠ "__name__") (hdb : (x == ("__debug__" : Str)) = false) (ha : PE X a (tD X.K E pa))
    (hs : starEach [a, .Name x p2] X.env = (false, eval a X.env) :: starEach [.Name x p2] X.env) : PE X (.Call (.Name "isinstance" p) [a, .Name x p2] [] pos) (tD X.K E (pIsi t pa)) :=
  PE.imp (pe_callB call_isi hg hm PyProof.Rows.boot_isinstance (pa_cons ha (pa_cons (pe_bltn (v := .ty t.nm) hgT hmT hvT rfl hn hdb) pa_nil) hs) (by decide) (by decide) hs rfl) fun σ H Q h => by
    obtain ⟨ρ, S, mu, hs, en, s, h⟩ := h
    refine ⟨ρ, S, mu, hs, en, s, Post.mono (Post.bind h) fun y S1 mu1 H1 g1 s1 z v hv => ?_⟩
    obtain ⟨_, _, z⟩ := z
    cases et : tyX S1 y with
    | none => rw [et] at z; exact z.elim
    | some u =>
      rw [et] at z
      exact ⟨v, .ty t.nm, .type u.nm, .type t.nm, isiB u t, rfl, cls_ty, tyX_of s1 hv et, kit_ty (kit_all u t), z.here s1 _ (by unfold DenX DenD; rfl)⟩
def fNeg (x : Xv) (S : Sto) : R Xv := match x with
  | .d (.int i) => .ok (.d (.int (-i))) S
  | _ => .bad
theorem e_neg {a : Expr} {pa : Me} {pos : Pos} (ha : PE X a (tD X.K E pa)) : PE X (.UnaryOp .USub a pos) (tD X.K E fun ρ S => (pa ρ S).bind fun x S1 => fNeg x S1) :=
  PE.imp (pe_un un_neg ha) fun σ H Q h => tD_un (fun x S mu hs H v Q s hv z => by
    cases x with
    | r n => exact z.elim
    | d d =>
      cases d with
      | int i => cases den_int hv; exact ⟨i, rfl, z.here s _ int_denX⟩
      | _ => exact z.elim) h
end
inductive Bi | len | tup | lst | lstR | int | max | min | abs | sum | srt | rpr
  deriving DecidableEq
def Bi.nm : Bi → Str
  | .len => "len" | .tup => "tuple" | .lst => "list" | .lstR => "list" | .int => "int" | .max => "max" | .min => "min" | .abs => "abs" | .sum => "sum" | .srt => "sorted" | .rpr => "repr"
def Bi.val : Bi → Value
  | .len => .builtin "len" | .tup => .type "tuple" | .lst => .type "list" | .lstR => .type "list" | .int => .type "int" | .max => .builtin "max" | .min => .builtin "min" | .abs => .builtin "abs" | .sum => .builtin "sum" | .srt => .builtin "sorted" | .rpr => .builtin "repr"
def Bi.f : Bi → List Xv → Sto → R Xv
  | .len => fLen | .tup => fTup | .lst => fLst | .lstR => fLstR | .int => fInt | .max => fOr (fInt2 gMax) (fTop topI) | .min => fOr (fInt2 gMin) (fTop lowI) | .abs => fAbs | .sum => fSum | .srt => fSort | .rpr => fRepr
section
variable {X : Cx} {E : XW}
theorem bi_ok (hc : X.calm = true) (hG : X.A.guards = some []) (hu : X.A.units + 100 < cLine) : ∀ b : Bi, CallR X b.val (rB X.K E b.f)
  | .len => c_len
  | .tup => c_tup
  | .lst => c_lst
  | .lstR => c_lstR
  | .int => c_int
  | .max => c_or (c_max2 hc) (c_maxL hc)
  | .min => c_or (c_min2 hc) (c_minL hc)
  | .abs => c_abs
  | .sum => c_sum hc
  | .srt => c_sort hu
  | .rpr => c_repr hG hu
theorem e_bi (hc : X.calm = true) (hG : X.A.guards = some []) (hu : X.A.units + 100 < cLine) (b : Bi) {e : Expr} {es : List Expr} {q : Mes} {p pos : Pos} (hg : Gl X b.nm) (hm : X.mg b.nm = none) (ha : PA X (e :: es) (tDs X.K E q))
    (he : starEach (e :: es) X.env = (false, eval e X.env) :: starEach es X.env) (hpl : (backTo pos (starEach es X.env)).any (·.1) = false) : PE X (.Call (.Name b.nm p) (e :: es) [] pos) (tD X.K E (pCall b.f q)) := by
  have k := bi_ok (E := E) hc hG hu b
  cases b with
  | len => exact PE.imp (pe_callB k hg hm PySem.boot_len ha (by decide) (by decide) he hpl) fun _ _ _ h => tCB_red h
  | tup => exact PE.imp (pe_callTy k hg hm PyProof.Rows.boot_tuple ha (by decide) (by decide) he hpl) fun _ _ _ h => tCB_red h
  | lst => exact PE.imp (pe_callTy k hg hm PyProof.Rows.boot_list ha (by decide) (by decide) he hpl) fun _ _ _ h => tCB_red h
  | lstR => exact PE.imp (pe_callTy k hg hm PyProof.Rows.boot_list ha (by decide) (by decide) he hpl) fun _ _ _ h => tCB_red h
  | int => exact PE.imp (pe_callTy k hg hm (by decide +kernel) ha (by decide) (by decide) he hpl) fun _ _ _ h => tCB_red h
  | max => exact PE.imp (pe_callB k hg hm (by decide +kernel) ha (by decide) (by decide) he hpl) fun _ _ _ h => tCB_red h
  | min => exact PE.imp (pe_callB k hg hm (by decide +kernel) ha (by decide) (by decide) he hpl) fun _ _ _ h => tCB_red h
  | abs => exact PE.imp (pe_callB k hg hm (by decide +kernel) ha (by decide) (by decide) he hpl) fun _ _ _ h => tCB_red h
  | sum => exact PE.imp (pe_callB k hg hm (by decide +kernel) ha (by decide) (by decide) he hpl) fun _ _ _ h => tCB_red h
  | srt => exact PE.imp (pe_callB k hg hm PyProof.Rows.boot_sorted ha (by decide) (by decide) he hpl) fun _ _ _ h => tCB_red h
  | rpr => exact PE.imp (pe_callB k hg hm (by decide +kernel) ha (by decide) (by decide) he hpl) fun _ _ _ h => tCB_red h
end

mutual
inductive E
  | var (i : Nat)
  | cst (d : D)
  | gl (j : Nat) (d : D)
  | bin (op : BOp) (a b : E)
  | neg (a : E)
  | not (a : E)
  | cmp (op : COp) (a b : E)
  | chn (op op' : COp) (a b c : E)
  | isN (a : E)
  | ntN (a : E)
  | and (a b : E)
  | or (a b : E)
  | ife (c a b : E)
  | tup (es : Es)
  | lst (es : Es)
  | lstR (es : Es)
  | ix (a b : E)
  | sl (a : E) (lo hi : Oe)
  | call (j : Nat) (f : Nat) (es : Es)
  | bi (j : Nat) (b : Bi) (es : Es)
  | isi (j k : Nat) (a : E) (t : Ty)
  | lc (r : Bool) (vs : List Nat) (t : Tg) (it : It') (c : Oe) (e : E)
  | lc2 (r : Bool) (vs : List Nat) (t : Tg) (it : It') (c : Oe) (t1 : Tg) (it1 : It') (c1 : Oe) (e : E)
  | gen (j : Nat) (b : Bool) (vs : List Nat) (t : Tg) (it : It') (c : Oe) (e : E)
  | frz (e : E)
  | dct (ks : List Key) (es : Es)
  | app (o e : E)
  | rem (o e : E)
inductive Oe
  | no
  | yes (e : E)
inductive Es
  | nil
  | cons (e : E) (es : Es)
inductive It'
  | seq (e : E)
  | rng1 (j : Nat) (a : Es)
  | rng2 (j : Nat) (a : Es)
  | zip (j : Nat) (es : Es)
  | zipS (j : Nat) (e : E)
  | enm (j : Nat) (e : Es)
end
mutual
inductive St
  | pass
  | doc
  | ret (e : E)
  | retN
  | expr (e : E)
  | set (t : Tg) (e : E)
  | par (i j : Nat) (es : Es)
  | setI (o i e : E)
  | ife (c : E) (a b : Ss)
  | for (t : Tg) (it : It') (b : Ss)
  | whl (n : Nat) (c : E) (b : Ss)
  | brk
  | cont
  | bad
inductive Ss
  | nil
  | cons (s : St) (ss : Ss)
  | frz (i : Nat) (ss : Ss)
end
abbrev Fns := Nat → List Xv → Sto → R Xv
def pB2 (f : Xv → Xv → Sto → R Xv) (pa pb : Me) : Me := fun ρ S => (pa ρ S).bind fun x S1 => (pb ρ S1).bind fun y S2 => f x y S2
def pB1 (f : Xv → Sto → R Xv) (pa : Me) : Me := fun ρ S => (pa ρ S).bind fun x S1 => f x S1
def tYes' : Env0' → Sto → R Bool := fun _ S => .ok true S
def pSel (r : Bool) (vs : List Nat) (t : Tg) (it : Mes) (pt : Env0' → Sto → R Bool) (pe : Me) : Me := match r with
  | true => pLcR vs t it pt pe
  | false => pLc vs t it pt pe
def pSel2 (r : Bool) (vs : List Nat) (t : Tg) (it : Mes) (pt : Env0' → Sto → R Bool) (t1 : Tg) (it1 : Mes) (pt1 : Env0' → Sto → R Bool) (pe : Me) : Me := match r with
  | true => pLc2R vs t it pt t1 it1 pt1 pe
  | false => pLc2 vs t it pt t1 it1 pt1 pe
mutual
def denE (F : Fns) : E → Me
  | .var i => pVar i
  | .cst d => pCst d
  | .gl _ d => pCst d
  | .bin op a b => pB2 (pBin op) (denE F a) (denE F b)
  | .neg a => pB1 fNeg (denE F a)
  | .not a => pNot (denE F a)
  | .cmp op a b => pB2 (pCmp op) (denE F a) (denE F b)
  | .chn op op' a b c => pChain op op' (denE F a) (denE F b) (denE F c)
  | .isN a => pIsN (denE F a)
  | .ntN a => pNtN (denE F a)
  | .and a b => pAnd (denE F a) (denE F b)
  | .or a b => pOr (denE F a) (denE F b)
  | .ife c a b => pIf (denE F c) (denE F a) (denE F b)
  | .tup es => pTup (denEs F es)
  | .lst es => pLst (denEs F es)
  | .lstR es => pLstR (denEs F es)
  | .ix a b => pB2 pIx (denE F a) (denE F b)
  | .sl a lo hi => pSlice (denE F a) (denO F lo) (denO F hi)
  | .call _ f es => pCall (fun xs S => nox (F f xs S)) (denEs F es)
  | .bi _ b es => pCall b.f (denEs F es)
  | .isi _ _ a t => pIsi t (denE F a)
  | .lc r vs t it c e => pSel r vs t (denI F it) (denC F c) (denE F e)
  | .lc2 r vs t it c t1 it1 c1 e => pSel2 r vs t (denI F it) (denC F c) t1 (denI F it1) (denC F c1) (denE F e)
  | .gen _ b vs t it c e => pGen b vs t (denI F it) (denC F c) (denE F e)
  | .frz e => pFrz (denE F e)
  | .dct ks es => pDct ks (denL F es)
  | .app o e => pM1 fApp (denE F o) (denE F e)
  | .rem o e => pM1 fRem (denE F o) (denE F e)
def denO (F : Fns) : Oe → Env0' → Sto → R (Option Int)
  | .no => pPart0
  | .yes e => pPart (denE F e)
def denC (F : Fns) : Oe → Env0' → Sto → R Bool
  | .no => tYes'
  | .yes e => tst (denE F e)
def denEs (F : Fns) : Es → Mes
  | .nil => pNil
  | .cons e es => pCons (denE F e) (denEs F es)
def denL (F : Fns) : Es → List Me
  | .nil => []
  | .cons e es => denE F e :: denL F es
def denI (F : Fns) : It' → Mes
  | .seq e => pSeqI (denE F e)
  | .rng1 _ a => pItC rng1 (denEs F a)
  | .rng2 _ a => pItC rng2 (denEs F a)
  | .zip _ es => pZip (denEs F es)
  | .zipS _ e => pZipS (denE F e)
  | .enm _ es => pEnum (denEs F es)
end
mutual
def denS (F : Fns) : St → Ms
  | .pass => pNext
  | .doc => pNext
  | .ret e => pRet (denE F e)
  | .retN => pRetN
  | .expr e => pDrop (denE F e)
  | .set t e => pAsg t (denE F e)
  | .par i j es => pPar i j (denEs F es)
  | .setI o i e => pSetI (denE F o) (denE F i) (denE F e)
  | .ife c a b => pIfS (denE F c) (denSs F a) (denSs F b)
  | .for t it b => pFor t (denI F it) (denSs F b)
  | .whl n c b => whL (denE F c) (denSs F b) n
  | .brk => pBk
  | .cont => pCt
  | .bad => pBad
def denSs (F : Fns) : Ss → Ms
  | .nil => pNext
  | .cons s ss => pSeq (denS F s) (denSs F ss)
  | .frz i ss => pFrzV i (denSs F ss)
end
end PB

namespace PB
open PySem PySem.Spec PyProof.Rows L2
variable {Ts : List Addr}

/-- room for k levels of calls -/
structure RoomG (k : Nat) (A : Around) : Prop where
  hd : A.handled = none
  dp : A.depth + 8 * k + 20 < recursionLimit
  un : A.units + 64 * k + 500 < cLine
  gd : A.guards = some []
/-- no exception leaves a call -/
abbrev CX0 : CXT := fun _ _ _ _ _ _ => False
structure FnG (P : Program) (w : World) (K : PySem.W.Frag) (mg : Str → Option Value) (base : Heap) (k : Nat) (f : Addr) (fd : FuncData) (ps : List Str) (sp : List V → Hp → VK → Prop) : Prop where
  len : ∀ vs H Q, sp vs H Q → vs.length = ps.length
  run : ∀ (A : Around) (outer : List Env) (s : Shared) (H : Hp) (args : Args) (us : List Value) (vs : List V) (Q : VK), RoomG k A → Env0 P w K mg base A outer s H → BindsTo s fd args (ps.zip us) → Vals vs us → sp vs H Q →
    codeAny (model P w) A (.call (.ref f) args) (CR CX0 outer P w H s Q fun _ _ _ => False) s
section
variable {X : Cx} {k : Nat} {f : Addr} {fd : FuncData} {ps : List Str} {sp : List V → Hp → VK → Prop} {x : Str} {p pos : Pos} {e : Expr} {es : List Expr} {t : TA}
theorem run_fnG {pins : List (Addr × Obj)} {σ : L2.St} {H : Hp} {s : Shared} {Q : VK} {us : List Value} {vs : List V} (F : FnG X.prog X.w X.K X.mg X.base k f fd ps sp) (hr : RoomG k X.A) (hb : Binds X.K fd ps [])
    (I : Inv X pins σ H s) (r : Vals vs us) (h : sp vs H Q) : wpAny (model X.prog X.w) X.A (call (.ref f) us) (EP X pins σ Q) X.xe s := by
  have hl : (us ++ []).length = ps.length := by rw [List.append_nil, ← r.length]; exact F.len _ _ _ h
  have hb' := hb s us I.kIn hl
  rw [List.append_nil] at hb'
  refine wpAny_call (codeAny_mono (F.run X.A X.stack s H ⟨us, []⟩ us vs Q hr I.env0 hb' r h) fun r s' hq => ?_)
  cases r with
  | error e => exact False.elim hq
  | ok fl =>
    cases fl with
    | ret u => exact I.after hq
    | next => exact False.elim hq
    | brk => exact False.elim hq
    | cont => exact False.elim hq
theorem pe_callG (F : FnG X.prog X.w X.K X.mg X.base k f fd ps sp) (hr : RoomG k X.A) (hg : Gl X x) (hm : X.mg x = some (.ref f)) (hk : PySem.W.keepIn X.K (.ref f) = true) (hb : Binds X.K fd ps [])
    (ha : PA X (e :: es) t) (hdb : (x == ("__debug__" : Str)) = false) (he : starEach (e :: es) X.env = (false, eval e X.env) :: starEach es X.env) (hpl : (backTo pos (starEach es X.env)).any (·.1) = false) :
    PE X (.Call (.Name x p) (e :: es) [] pos) (fun σ H Q => t σ H fun vs H1 => sp vs H1 Q) := by
  refine ⟨fun pins s σ H Q I h => ?_⟩
  refine wpAny_Call_Name_kw (ld_glob I hg hm ?_ hdb)
  refine PySem.W.callWith_K (h₀ := X.base) I.ok.mod.kin hk (thn (ha.run pos pins s σ H _ I h) fun us s1 ⟨vs, H1, I1, r, q⟩ => ⟨I1.kIn, ?_⟩) he hpl
  exact run_fnG F hr hb I1 r q
theorem pe_callG0 (F : FnG X.prog X.w X.K X.mg X.base k f fd ps sp) (hr : RoomG k X.A) (hg : Gl X x) (hm : X.mg x = some (.ref f)) (hk : PySem.W.keepIn X.K (.ref f) = true) (hb : Binds X.K fd ps [])
    (hdb : (x == ("__debug__" : Str)) = false) : PE X (.Call (.Name x p) [] [] pos) (fun σ H Q => sp [] H Q) := by
  refine ⟨fun pins s σ H Q I h => ?_⟩
  refine wpAny_Call_Name_kw (ld_glob I hg hm ?_ hdb)
  exact PySem.W.callWith_K0 I.kIn hk (run_fnG (us := []) F hr hb I .nil h)
end
theorem fnG_of {P : Program} {w : World} {K : PySem.W.Frag} {mg : Str → Option Value} {base : Heap} {k : Nat} {f : Addr} {name qual : Str} {params : Arguments} {body : List Stmt} {scope : Scope} {dV kV doc pm cdv ct oc : Value} {an od : Option Addr}
    {osl : Array (Option Value)} {N ps : List Str} {sp : List V → Hp → VK → Prop} (lk : K.lookup f = some ⟨oc, od, .func (PySem.W.fnOf name qual params body scope dV kV doc pm an cdv ct), osl⟩) (hcd : PySem.W.codeIn K cdv qual = true) (S : FnScope N ps scope)
    (len : ∀ vs H Q, sp vs H Q → vs.length = ps.length)
    (hbody : ∀ (A : Around) (outer : List Env) (s : Shared) (H : Hp) (vs : List V) (Q : VK), RoomG (k + 1) A → sp vs H Q →
      ∃ t, PSs (cxOf CX0 P w K mg base N qual scope f cdv A outer s H fun _ _ _ => False) body t ∧ t { nx := fun _ H' => Q .non H', rt := Q } (start N vs) H) :
    FnG P w K mg base (k + 1) f (PySem.W.fnOf name qual params body scope dV kV doc pm an cdv ct) ps sp := by
  refine ⟨len, fun A outer s H args us vs Q hr e0 hb r hsp => ?_⟩
  have hl := len _ _ _ hsp
  have KX : K.In s.heap := e0.mod.kin.keeps fun b o e => (e0.bs b o e).1
  have lim : s.heap.NoLimit := e0.mod.nolimit.keeps fun b o e => (e0.bs b o e).1
  have hkind : ∀ y ∈ ps.zip us, scope.names.lookup y.1 = some .local ∨ (scope.names.lookup y.1 = some .cell ∧ ((cellsFrom (s.heap.objs.size + 1) scope.names []).lookup y.1).isSome = true) := fun ⟨n, v⟩ hy => by
    rcases S.par n (List.of_mem_zip hy).1 with q | q
    · exact .inl q
    · exact .inr ⟨q, PySem.W.cellsFrom_some _ _ _ (.inl q)⟩
  refine codeAny_call_function (by have := hr.dp; omega) (KX _ _ lk) rfl S.co S.gen rfl (PySem.W.codeRec_of KX hcd) (hb _ _ _ _ ?_)
  refine wpAny_newFunctionEnv_cells S.kind hkind fun env he s1 x => ?_
  subst he
  refine ⟨lim.keeps x.toInCall.keep, codeAny_func ?_⟩
  obtain ⟨t, ht, hq⟩ := hbody A outer s H vs Q hr hsp
  have I : Inv (cxOf CX0 P w K mg base N qual scope f cdv A outer s H fun _ _ _ => False) [] (start N vs) H s1 := inv_start S hr.hd e0 hl r x
  refine wpAny_mono (ht.run [] s1 (start N vs) H _ I hq) (fun fl s' hs => ?_) fun e s' hs => hs
  have fin : ∀ {σ' : L2.St} {H' : Hp} {v : V} {u : Value}, Inv (cxOf CX0 P w K mg base N qual scope f cdv A outer s H fun _ _ _ => False) [] σ' H' s' → RelV v u → Q v H' → CE outer P w H s Q u s' :=
    fun {σ' H' v u} J rv q => ⟨v, H', J.os, J.bare, J.base, J.hok, rv, q⟩
  cases fl with
  | ret u =>
    obtain ⟨v, σ', H', J, rv, q⟩ := hs
    exact fin J rv q
  | next =>
    obtain ⟨σ', H', J, q⟩ := hs
    exact fin (v := V.non) (u := Value.none) J rfl q
  | brk =>
    obtain ⟨_, _, _, q⟩ := hs
    exact False.elim q
  | cont =>
    obtain ⟨_, _, _, q⟩ := hs
    exact False.elim q

def spD (K : PySem.W.Frag) (Ts : List Addr) (f : List Xv → Sto → R Xv) (n : Nat) : List V → Hp → VK → Prop := fun vs H Q => vs.length = n ∧ ∃ (xs : List Xv) (S : Sto) (mu hs : List Addr), StoOk K Ts S mu hs H ∧ DenXs K (live S mu hs) mu H xs vs ∧
  Post K ⟨fun _ _ _ _ _ => False, Ts⟩ S mu hs H (fun z S' mu' H' => ∀ v, DenX K (live S' mu' hs) mu' H' z v → Q v H') (f xs S)
theorem post_nox {α : Type} {K : PySem.W.Frag} {E : XW} {S : Sto} {mu hs : List Addr} {H : Hp} {k : α → Sto → List Addr → Hp → Prop} {r : R α} (w : Nat → List Xv → Sto → List Addr → Hp → Prop) (h : Post K E S mu hs H k (nox r)) : Post K ⟨w, E.ts⟩ S mu hs H k r := by
  cases r with
  | ok x S' => exact h
  | exc c as S' => exact False.elim h
  | bad => exact h
section
variable {X : Cx} {E : XW} {k : Nat} {f : Addr} {fd : FuncData} {ps : List Str} {x : Str} {p pos : Pos} {e : Expr} {es : List Expr} {q : Mes} {fn : List Xv → Sto → R Xv} {n : Nat}
theorem e_call (F : FnG X.prog X.w X.K X.mg X.base k f fd ps (spD X.K E.ts fn n)) (hr : RoomG k X.A) (hg : Gl X x) (hm : X.mg x = some (.ref f)) (hk : PySem.W.keepIn X.K (.ref f) = true) (hb : Binds X.K fd ps [])
    (ha : PA X (e :: es) (tDs X.K E q)) (hn : ∀ ρ S xs S', q ρ S = .ok xs S' → xs.length = n) (hdb : (x == ("__debug__" : Str)) = false) (he : starEach (e :: es) X.env = (false, eval e X.env) :: starEach es X.env) (hpl : (backTo pos (starEach es X.env)).any (·.1) = false) :
    PE X (.Call (.Name x p) (e :: es) [] pos) (tD X.K E (pCall (fun xs S => nox (fn xs S)) q)) := PE.imp (pe_callG F hr hg hm hk hb ha hdb he hpl) fun σ H Q h => by
  obtain ⟨ρ, S, mu, hs, en, s, h⟩ := h
  refine ⟨ρ, S, mu, hs, en, s, Post.mono' (Post.bind h) fun xs S1 mu1 H1 ex g1 s1 z vs hv => ?_⟩
  have l := hn _ _ _ _ ex
  have l2 := Paired.length hv
  exact ⟨by omega, xs, S1, mu1, hs, s1, hv, post_nox _ z.2.2⟩
theorem e_call0 (F : FnG X.prog X.w X.K X.mg X.base k f fd ps (spD X.K E.ts fn 0)) (hr : RoomG k X.A) (hg : Gl X x) (hm : X.mg x = some (.ref f)) (hk : PySem.W.keepIn X.K (.ref f) = true) (hb : Binds X.K fd ps [])
    (hdb : (x == ("__debug__" : Str)) = false) : PE X (.Call (.Name x p) [] [] pos) (tD X.K E (pCall (fun xs S => nox (fn xs S)) pNil)) := PE.imp (pe_callG0 F hr hg hm hk hb hdb) fun σ H Q h => by
  obtain ⟨ρ, S, mu, hs, en, s, h⟩ := h
  exact ⟨rfl, [], S, mu, hs, s, .nil, post_nox _ h⟩
end

def clsX (n : Nat) : Xv → Bool
  | .d _ => true
  | .r m => decide (m < n)
def clsO (n : Nat) : MO → Bool
  | .lst xs => xs.all (clsX n)
  | .dct kvs => kvs.all fun kv => clsX n kv.2
  | .rol xs => xs.all (clsX n)
  | .dead => true
def trunc (n : Nat) (x : Xv) (S : Sto) : R Xv := match x with
  | .d d => if (S.take n).all (clsO n) then .ok (.d d) (S.take n) else .ok (.d d) S
  | .r m => if (S.take (max n (m + 1))).all (clsO (max n (m + 1))) then .ok (.r m) (S.take (max n (m + 1))) else .ok (.r m) S
section
variable {K : PySem.W.Frag} {S S' : Sto} {mu mu' hs : List Addr} {H H' : Hp} {n : Nat}
theorem take_live {a : Addr} (s : StoOk K Ts S mu hs H) (h : live (S.take n) (mu.take n) hs a) : live S mu hs a := live_take h
theorem keep_take (s : StoOk K Ts S mu hs H) : Keep K (live S mu hs) (live (S.take n) (mu.take n) hs) H H :=
  ⟨fun _ _ h => h, fun _ _ h n => ⟨h, fun z => n (live_take z)⟩, fun _ _ h n => ⟨h, fun z => n (live_take z)⟩⟩
theorem clsX_den (s : StoOk K Ts S mu hs H) {x : Xv} {v : V} (c : clsX n x = true) (h : DenX K (live S mu hs) mu H x v) : DenX K (live (S.take n) (mu.take n) hs) (mu.take n) H x v := by
  cases x with
  | d d => exact DenD.keep (keep_take s) _ _ h
  | r m =>
    obtain ⟨a, e, q⟩ := h
    have c : m < n := of_decide_eq_true c
    exact ⟨a, e, by rw [List.getElem?_take, if_pos c]; exact q⟩
theorem clsXs_den (s : StoOk K Ts S mu hs H) : ∀ {xs : List Xv} {vs : List V}, xs.all (clsX n) = true → DenXs K (live S mu hs) mu H xs vs → DenXs K (live (S.take n) (mu.take n) hs) (mu.take n) H xs vs
  | _, _, _, .nil => .nil
  | x :: xs, _, c, .cons q t => by
    rw [List.all_cons, Bool.and_eq_true] at c
    exact .cons (clsX_den s c.1 q) (clsXs_den s c.2 t)
theorem clsKv_den (s : StoOk K Ts S mu hs H) : ∀ {kvs : List (Key × Xv)} {ws : List (Key × V)}, (kvs.all fun kv => clsX n kv.2) = true → DenKv K (live S mu hs) mu H kvs ws → DenKv K (live (S.take n) (mu.take n) hs) (mu.take n) H kvs ws
  | _, _, _, .nil => .nil
  | x :: xs, _, c, .cons q t => by
    rw [List.all_cons, Bool.and_eq_true] at c
    exact .cons ⟨q.1, clsX_den s c.1 q.2⟩ (clsKv_den s c.2 t)
theorem StoOk.take (s : StoOk K Ts S mu hs H) (c : (S.take n).all (clsO n) = true) : StoOk K Ts (S.take n) (mu.take n) hs H := by
  have sub : ∀ {r : Nat} {o : MO}, (S.take n)[r]? = some o → r < n ∧ S[r]? = some o := fun {r o} e => by
    rw [List.getElem?_take] at e
    split at e
    · exact ⟨by assumption, e⟩
    · cases e
  have sub2 : ∀ {r : Nat} {a : Addr}, (mu.take n)[r]? = some a → mu[r]? = some a := fun {r a} e => by
    rw [List.getElem?_take] at e
    split at e
    · exact e
    · cases e
  refine ⟨by simp [s.len], fun r r' o o' a e e' m m' q q' => s.inj r r' o o' a (sub e).2 (sub e').2 m m' (sub2 q) (sub2 q'), fun r o a e q => ?_, s.hid, fun a ha r o e m q => s.hidn a ha r o (sub e).2 m (sub2 q), s.tab⟩
  have k := s.ok r o a (sub e).2 (sub2 q)
  have co : clsO n o = true := List.all_eq_true.mp c o (List.mem_of_getElem? e)
  cases o with
  | lst xs => obtain ⟨l, vs, e1, d⟩ := k; exact ⟨l, vs, e1, clsXs_den s co d⟩
  | dct kvs => obtain ⟨ws, e1, d⟩ := k; exact ⟨ws, e1, clsKv_den s co d⟩
  | rol xs =>
    obtain ⟨l, vs, e1, d⟩ := k
    refine ⟨l, vs, ?_, clsXs_den s co d⟩
    rcases e1 with ⟨e1, e2⟩ | e1
    · exact .inl ⟨e1, fun z => e2 (live_take z)⟩
    · exact .inr e1
  | dead => trivial
theorem Go.take {S0 : Sto} {mu0 : List Addr} {H0 : Hp} (g : Go S0 mu0 hs H0 S mu H) (hl : mu0.length ≤ n) : Go S0 mu0 hs H0 (S.take n) (mu.take n) H where
  pre := fun r a h => by
    rw [List.getElem?_take, if_pos (Nat.lt_of_lt_of_le (List.getElem?_eq_some_iff.mp h).1 hl)]
    exact g.pre r a h
  tup := g.tup
  frz := g.frz
  tbl := g.tbl
  stay := g.stay
  nlv := fun a h nl z => g.nlv a h nl (live_take z)
  hid := g.hid
  hadn := g.hadn
theorem trunc_red {E : XW} {S0 : Sto} {mu0 : List Addr} {H0 : Hp} {x : Xv} {v : V} {Q : VK} (g : Go S0 mu0 hs H0 S mu H) (s0 : StoOk K E.ts S0 mu0 hs H0) (s : StoOk K E.ts S mu hs H) (hv : DenX K (live S mu hs) mu H x v)
    (z : Post K E S0 mu0 hs H0 (fun z S' mu' H' => ∀ v, DenX K (live S' mu' hs) mu' H' z v → Q v H') (trunc S0.length x S)) : Q v H := by
  have fin : ∀ n, mu0.length ≤ n → clsX n x = true → (S.take n).all (clsO n) = true → Post K E S0 mu0 hs H0 (fun z S' mu' H' => ∀ v, DenX K (live S' mu' hs) mu' H' z v → Q v H') (.ok x (S.take n)) → Q v H := fun n hn cx c z =>
    z _ _ (Go.take g hn) (s.take c) v (clsX_den s cx hv)
  cases x with
  | d d =>
    simp only [trunc] at z
    split at z
    · rename_i c
      exact fin S0.length (by rw [s0.len]; exact Nat.le_refl _) rfl c z
    · exact z mu H g s v hv
  | r m =>
    simp only [trunc] at z
    split at z
    · rename_i c
      exact fin (max S0.length (m + 1)) (by rw [s0.len]; omega) (by simp only [clsX, decide_eq_true_eq]; omega) c z
    · exact z mu H g s v hv
end
/-- tr: forget what was made; a def that makes nothing needs no look -/
def trunc' (tr : Bool) (n : Nat) (x : Xv) (S : Sto) : R Xv := match tr with
  | true => trunc n x S
  | false => .ok x S
def fnRes (tr : Bool) (n : Nat) (r : R Fl) : R Xv := match r with
  | .ok (.rt x) S => trunc' tr n x S
  | .ok (.nx _) S => trunc' tr n (.d .none) S
  | .ok _ _ => .bad
  | .exc c as S => .exc c as S
  | .bad => .bad
/-- a def: how many names, how many parameters, whether what it made is to be forgotten, its body -/
structure Def' where
  nn : Nat
  np : Nat
  tr : Bool
  body : Ss
def env0 (d : Def') (xs : List Xv) : Env0' := xs.map some ++ List.replicate (d.nn - xs.length) none
def runDef (F : Fns) (d : Def') (xs : List Xv) (S : Sto) : R Xv := if xs.length = d.np then fnRes d.tr S.length (denSs F d.body (env0 d xs) S) else .bad
/-- the defs at a level -/
def callN (ds : List Def') : Nat → Fns
  | 0 => fun _ _ _ => .bad
  | k + 1 => fun f xs S => match ds[f]? with
    | some d => runDef (callN ds k) d xs S
    | none => .bad
end PB

namespace PB
open PySem PySem.Spec PyProof.Rows L2

def notStar : Expr → Bool
  | .Starred .. => false
  | _ => true
def notComp : Expr → Bool
  | .ListComp .. => false
  | .SetComp .. => false
  | .DictComp .. => false
  | _ => true
def notSl : Expr → Bool
  | .Slice .. => false
  | _ => true
def notSet : Expr → Bool
  | .Set .. => false
  | _ => true
def notDisp : Expr → Bool
  | .Set .. => false
  | .List .. => false
  | _ => true
def notTup : Expr → Bool
  | .Tuple .. => false
  | _ => true
def plainT : Expr → Bool
  | .UnaryOp .Not _ _ => false
  | .BoolOp .. => false
  | .IfExp .. => false
  | .Compare .. => false
  | _ => true
def isNm : Expr → Bool
  | .Name .. => true
  | .Subscript .. => true
  | _ => false
theorem star_cons {e : Expr} {es : List Expr} {env : Env} (h : notStar e = true) : starEach (e :: es) env = (false, eval e env) :: starEach es env := by
  cases e <;> first | rfl | cases h
theorem star_all {env : Env} {pos : Pos} : ∀ {es : List Expr}, es.all notStar = true → (backTo pos (starEach es env)).any (·.1) = false
  | [], _ => rfl
  | e :: es, h => by
    rw [List.all_cons, Bool.and_eq_true] at h
    rw [star_cons h.1]
    show (false || (backTo pos (starEach es env)).any (·.1)) = false
    rw [Bool.false_or]
    exact star_all h.2
theorem swaps_no {e : Expr} {t : Option Expr} {l : Nat} {env : Env} (h : notComp e = true) : swapsWith e t l env = pure false := by
  cases e <;> first | rfl | cases h
theorem swaps_tup {e : Expr} {es : List Expr} {k l : Nat} {p : Pos} {env : Env} : swapsWithSole [.Tuple es k p] e l env = pure false := by
  cases e <;> rfl
theorem swaps_sub {e a b : Expr} {l : Nat} {p : Pos} {env : Env} : swapsWithSole [.Subscript a b p] e l env = pure false := by
  cases e <;> rfl
theorem stores_no {e t : Expr} {env : Env} (h : notTup e = true) : swappedStores [t] e env = pure none := by
  cases e <;> first
    | (cases t <;> rfl)
    | cases h
theorem stores_sub {e a b : Expr} {p : Pos} {env : Env} : swappedStores [.Subscript a b p] e env = pure none := by
  cases e <;> rfl
theorem plainIx {b : Expr} (h : notSl b = true) : PlainIx b := by
  intro o i
  cases b <;> first | rfl | cases h
theorem fold_no {e : Expr} {env : Env} (h : notSet e = true) : ∀ x, foldedSetIterable e env x = pure x := by
  intro x
  cases e <;> first | rfl | cases h
theorem genFold_no {e : Expr} {env : Env} (h : notDisp e = true) : ∀ x, genFold e env x = pure x := by
  intro x
  cases e <;> first | rfl | cases h
theorem isTrue_no {e : Expr} {env : Env} (h : plainT e = true) : ∀ whole, isTrue e env whole = (do let v ← whole; standAt e.pos; holding [v] (truthy v)) := by
  intro whole
  cases e with
  | UnaryOp op x p => cases op <;> first | rfl | cases h
  | BoolOp _ _ _ => cases h
  | IfExp _ _ _ _ => cases h
  | Compare _ _ _ _ => cases h
  | _ => rfl
theorem attr_no {o : Expr} {m : Str} {env : Env} (h : isNm o = true) : attributeBase o m env (eval o env) = eval o env := by
  cases o <;> first | rfl | cases h
theorem assign_sub {o i : Expr} {env : Env} {pos : Pos} (h : notSl i = true) : ∀ v, assign (.Subscript o i pos) env v = (do
      let ov ← holding [v] (eval o env)
      let iv ← holding [v, ov] (eval i env)
      standAt pos
      holding [v, ov, iv] (setItem ov iv v)
      release [v, ov, iv] []) := by
  intro v
  cases i <;> first | rfl | cases h
/-- the name's store by the comprehension's own end -/
def swB (sc : Scope) (y : Str) (py pos : Pos) (scope : Scope) : Bool := decide (sc.names.lookup y = some .local) && decide (py.line = pos.line) && !(scope.names.any fun (n, k) => n == y && (k == .local || k == .cell))
theorem swaps_lc {elt : Expr} {gs : List Comprehension} {scope : Scope} {pos py : Pos} {y : Str} {l : Nat} {env : Env} (hk : env.scope.kind = .function) : swapsWith (.ListComp elt gs scope pos) (some (.Name y py)) l env = pure (swB env.scope y py pos scope) := by
  have hb : (env.blockKind == ScopeKind.function) = true := by unfold Env.blockKind; rw [hk]; rfl
  have h1 : (env.kindOf y == some NameKind.local) = decide (env.scope.names.lookup y = some .local) := by
    show (env.scope.names.lookup y == some NameKind.local) = _
    by_cases h : env.scope.names.lookup y = some .local
    · rw [h]; rfl
    · rw [decide_eq_false h]; exact beq_eq_false_iff_ne.mpr h
  have h2 : (py.line == pos.line) = decide (py.line = pos.line) := by
    by_cases h : py.line = pos.line
    · rw [h]; simp
    · rw [decide_eq_false h]; exact beq_eq_false_iff_ne.mpr h
  unfold swapsWith swB
  simp only [hb, h1, h2, Expr.pos, Bool.true_and]
/-- a, b = x, y of plain names -/
def parB (sc : Scope) (x y : Str) (px py : Pos) (a b : Expr) : Bool := decide (sc.names.lookup x = some .local) && decide (sc.names.lookup y = some .local) && decide (px.line = py.line) && decide (x ≠ y) && notStar a && notStar b && !([a, b].all (foldedForSure 8)) && !([a, b].all (constantsAlone 8))
theorem stores_par {x y : Str} {px py pt pt2 : Pos} {kt k2 : Nat} {a b : Expr} {env : Env} (hk : env.scope.kind = .function) (h : parB env.scope x y px py a b = true) :
    swappedStores [.Tuple [.Name x px, .Name y py] kt pt] (.Tuple [a, b] k2 pt2) env = pure (some [x, y]) := by
  simp only [parB, Bool.and_eq_true, decide_eq_true_eq, Bool.not_eq_true'] at h
  obtain ⟨⟨⟨⟨⟨⟨⟨h1, h2⟩, h3⟩, h4⟩, h5⟩, h6⟩, h7⟩, h8⟩ := h
  have hb : (env.blockKind != ScopeKind.function) = false := by unfold Env.blockKind; rw [hk]; rfl
  have k1 : (env.kindOf x == some NameKind.local) = true := by show (env.scope.names.lookup x == some NameKind.local) = true; rw [h1]; rfl
  have k2' : (env.kindOf y == some NameKind.local) = true := by show (env.scope.names.lookup y == some NameKind.local) = true; rw [h2]; rfl
  unfold swappedStores
  simp only [hb, List.length_cons, List.length_nil, List.head?_cons, Option.map_some, Option.getD_some, Expr.pos, List.filterMap_cons, List.filterMap_nil, k1, k2', h3, h7, h8, beq_self_eq_true, Bool.and_self, if_true]
  have ed : [x, y].eraseDups = [x, y] := by
    have hne : (y == x) = false := beq_eq_false_iff_ne.mpr (Ne.symm h4)
    simp [List.eraseDups_cons, hne]
  rw [ed]
  rw [if_neg (by decide), if_neg, if_neg (by simp), if_neg Bool.false_ne_true, if_neg Bool.false_ne_true]
  intro h
  simp only [List.any_cons, List.any_nil, Bool.or_false, Bool.or_eq_true] at h
  rcases h with h | h
  · cases a <;> first | (exact absurd h Bool.false_ne_true) | (exact absurd h5 Bool.false_ne_true)
  · cases b <;> first | (exact absurd h Bool.false_ne_true) | (exact absurd h6 Bool.false_ne_true)

mutual
def eqD : D → D → Bool
  | .none, .none => true
  | .bool a, .bool b => a == b
  | .int a, .int b => decide (a = b)
  | .str a, .str b => decide (a = b)
  | .tuple a, .tuple b => eqDs a b
  | .list a, .list b => eqDs a b
  | _, _ => false
def eqDs : List D → List D → Bool
  | [], [] => true
  | x :: xs, y :: ys => eqD x y && eqDs xs ys
  | _, _ => false
end
mutual
theorem eqD_eq : ∀ (a b : D), eqD a b = true → a = b
  | .none, b, h => by cases b <;> first | rfl | (unfold eqD at h; cases h)
  | .bool a, b, h => by cases b <;> unfold eqD at h <;> first | (rw [beq_iff_eq.mp h]) | cases h
  | .int a, b, h => by cases b <;> unfold eqD at h <;> first | (rw [of_decide_eq_true h]) | cases h
  | .str a, b, h => by cases b <;> unfold eqD at h <;> first | (rw [of_decide_eq_true h]) | cases h
  | .tuple a, b, h => by cases b <;> unfold eqD at h <;> first | (rw [eqDs_eq _ _ h]) | cases h
  | .list a, b, h => by cases b <;> unfold eqD at h <;> first | (rw [eqDs_eq _ _ h]) | cases h
  | .dict a, b, h => by cases b <;> unfold eqD at h <;> cases h
theorem eqDs_eq : ∀ (a b : List D), eqDs a b = true → a = b
  | [], b, h => by cases b <;> first | rfl | (unfold eqDs at h; cases h)
  | x :: xs, b, h => by
    cases b with
    | nil => unfold eqDs at h; cases h
    | cons y ys =>
      unfold eqDs at h
      rw [Bool.and_eq_true] at h
      rw [eqD_eq _ _ h.1, eqDs_eq _ _ h.2]
end

inductive Gk
  | blt
  | cst (d : D)
  | fn (i np : Nat)
structure Cn where
  N : List Str
  sc : Scope
  fl : Str → Bool
  ga : Nat
  tb : Bool
def visB (sc : Scope) (y : Str) : Bool := match sc.names.lookup y with
  | some .local => true
  | some .cell => true
  | some .free => true
  | _ => false
theorem visB_ok {sc : Scope} {y : Str} (h : visB sc y = true) : Vis sc y := by
  unfold visB at h
  split at h
  · exact .inl (by assumption)
  · exact .inr (.inl (by assumption))
  · exact .inr (.inr (by assumption))
  · cases h
def glb (gt : List (Str × Gk)) (sc : Scope) (j : Nat) (y : Str) (p : Gk → Bool) : Bool := decide (sc.names.lookup y = some .globalImplicit) && !(y == ("__debug__" : Str)) && match gt[j]? with
  | some (z, g) => decide (z = y) && p g
  | none => false
def isBlt : Gk → Bool
  | .blt => true
  | _ => false
def isCst (d : D) : Gk → Bool
  | .cst d' => eqD d d'
  | _ => false
def isFn (i n : Nat) : Gk → Bool
  | .fn i' n' => decide (i = i') && decide (n = n')
  | _ => false
def constB : Const → D → Bool
  | .int i, .int j => decide (i = j)
  | .str x, .str y => decide (x = y)
  | .bool a, .bool b => a == b
  | .none, .none => true
  | _, _ => false
def Es.len : Es → Nat
  | .nil => 0
  | .cons _ es => es.len + 1
def nmB (cn : Cn) (i : Nat) : Expr → Bool
  | .Name y _ => decide (cn.N[i]? = some y) && (decide (cn.sc.names.lookup y = some .local) || (decide (cn.sc.names.lookup y = some .cell) && cn.fl y))
  | _ => false
def nmsB (cn : Cn) : List Nat → List Expr → Bool
  | [], [] => true
  | i :: is, e :: es => nmB cn i e && nmsB cn is es
  | _, _ => false
def tgB (cn : Cn) : Tg → Expr → Bool
  | .nm i, e => nmB cn i e
  | .tp is, e => match e with
    | .Tuple es _ _ => nmsB cn is es
    | _ => false
def ownOf (N : List Str) (vs : List Nat) : List (Str × Nat) := vs.map fun v => (N.getD v "", v)
theorem ownOf_snd (N : List Str) (vs : List Nat) : (ownOf N vs).map (·.2) = vs := by
  unfold ownOf
  rw [List.map_map]
  exact List.map_id vs
def genC (N : List Str) (sc scope : Scope) (own : List (Str × Nat)) : Bool :=
  decide (scope.kind = .function) && !scope.isCoroutine && decide (scope.names.lookup (".0" : Str) = some NameKind.local) && (scope.names.all fun y => decide (scope.names.lookup y.1 = some y.2)) && (own.all fun p => decide (N[p.2]? = some p.1)) &&
    (scope.names.all fun y => match y.2 with
      | .free => (match sc.names.lookup y.1 with | some .cell => true | some .free => true | _ => false)
      | .local => decide (y.1 ∈ own.map (·.1)) || decide (y.1 ∉ N)
      | .cell => false
      | _ => true)
theorem genC_ok {N : List Str} {sc scope : Scope} {own : List (Str × Nat)} (h : genC N sc scope own = true) : GenOk N sc scope own := by
  simp only [genC, Bool.and_eq_true, List.all_eq_true, decide_eq_true_eq, Bool.not_eq_true'] at h
  obtain ⟨⟨⟨⟨⟨h1, h2⟩, h3⟩, h4⟩, h5⟩, h6⟩ := h
  refine ⟨h1, h2, fun y hy e => ?_, h3, h4, h5, fun y hy e => ?_, fun y hy e => ?_⟩
  · have q := h6 y hy; rw [e] at q; cases q
  · have q := h6 y hy
    rw [e] at q
    dsimp only at q
    split at q
    · exact .inl (by assumption)
    · exact .inr (by assumption)
    · cases q
  · have q := h6 y hy
    rw [e] at q
    simp only [Bool.or_eq_true, decide_eq_true_eq] at q
    exact q
def blkCn (cn : Cn) (scope : Scope) : Cn := { cn with sc := relS scope cn.sc, fl := fun y => scope.names.lookup y == some .cell }
def genCn (cn : Cn) (scope : Scope) : Cn := { N := cn.N, sc := scope, fl := fun _ => false, ga := cn.ga - 1, tb := false }
/-- may e stand as a test -/
def tOk : E → Expr → Bool
  | .and a b, x => (match x with
    | .BoolOp .And [l, r] _ => tOk a l && tOk b r
    | .BoolOp .And (l :: m :: n :: rest) p => tOk a l && tOk b (.BoolOp .And (m :: n :: rest) p)
    | _ => false)
  | .or a b, x => (match x with
    | .BoolOp .Or [l, r] _ => tOk a l && tOk b r
    | .BoolOp .Or (l :: m :: n :: rest) p => tOk a l && tOk b (.BoolOp .Or (m :: n :: rest) p)
    | _ => false)
  | .not a, x => (match x with
    | .UnaryOp .Not l _ => tOk a l
    | _ => false)
  | .cmp _ _ _, _ => true
  | .chn _ _ _ _ _, _ => true
  | .isN _, _ => true
  | .ntN _, _ => true
  | .frz _, _ => false
  | _, x => plainT x
mutual
def chkE (gt : List (Str × Gk)) : E → Cn → Expr → Bool
  | .var i, cn, x => (match x with
    | .Name y _ => decide (cn.N[i]? = some y) && visB cn.sc y && !(y == ("__debug__" : Str)) && !(y == ("__classdict__" : Str))
    | _ => false)
  | .cst d, _, x => (match x with
    | .Constant c _ _ => constB c d
    | _ => false)
  | .gl j d, cn, x => (match x with
    | .Name y _ => glb gt cn.sc j y (isCst d)
    | _ => false)
  | .bin op a b, cn, x => (match x with
    | .BinOp l o r _ => decide (o = op.op) && chkE gt a cn l && chkE gt b cn r
    | _ => false)
  | .neg a, cn, x => (match x with
    | .UnaryOp .USub l _ => chkE gt a cn l
    | _ => false)
  | .not a, cn, x => (match x with
    | .UnaryOp .Not l _ => chkE gt a cn l
    | _ => false)
  | .cmp op a b, cn, x => (match x with
    | .Compare l [o] [r] _ => decide (o = op.op) && !(behindInMarks op.op r) && chkE gt a cn l && chkE gt b cn r
    | _ => false)
  | .chn op op' a b c, cn, x => (match x with
    | .Compare l [o, o'] [m, r] _ => decide (o = op.op) && decide (o' = op'.op) && !(behindInMarks op'.op r) && chkE gt a cn l && chkE gt b cn m && chkE gt c cn r
    | _ => false)
  | .isN a, cn, x => (match x with
    | .Compare l [.Is] [.Constant .none _ _] _ => chkE gt a cn l
    | _ => false)
  | .ntN a, cn, x => (match x with
    | .Compare l [.IsNot] [.Constant .none _ _] _ => chkE gt a cn l
    | _ => false)
  | .and a b, cn, x => (match x with
    | .BoolOp .And [l, r] _ => chkE gt a cn l && chkE gt b cn r
    | .BoolOp .And (l :: m :: n :: rest) p => chkE gt a cn l && chkE gt b cn (.BoolOp .And (m :: n :: rest) p)
    | _ => false)
  | .or a b, cn, x => (match x with
    | .BoolOp .Or [l, r] _ => chkE gt a cn l && chkE gt b cn r
    | .BoolOp .Or (l :: m :: n :: rest) p => chkE gt a cn l && chkE gt b cn (.BoolOp .Or (m :: n :: rest) p)
    | _ => false)
  | .ife c a b, cn, x => (match x with
    | .IfExp t l r _ => chkE gt c cn t && tOk c t && chkE gt a cn l && chkE gt b cn r
    | _ => false)
  | .tup es, cn, x => (match x with
    | .Tuple xs _ _ => decide (es.len ≤ 1000) && chkEs gt es cn xs
    | _ => false)
  | .lst es, cn, x => (match x with
    | .List xs _ => decide (es.len ≤ 1000) && chkEs gt es cn xs
    | _ => false)
  | .lstR es, cn, x => (match x with
    | .List xs _ => decide (es.len ≤ 1000) && chkEs gt es cn xs
    | _ => false)
  | .ix a b, cn, x => (match x with
    | .Subscript l r _ => notSl r && chkE gt a cn l && chkE gt b cn r
    | _ => false)
  | .sl a lo hi, cn, x => (match x with
    | .Subscript l (.Slice u v none _) _ => chkE gt a cn l && chkO gt lo cn u && chkO gt hi cn v
    | _ => false)
  | .call j f es, cn, x => (match x with
    | .Call (.Name y _) xs [] _ => glb gt cn.sc j y (isFn f es.len) && chkEs gt es cn xs
    | _ => false)
  | .bi j b es, cn, x => (match x with
    | .Call (.Name y _) (l :: xs) [] _ => decide (y = b.nm) && glb gt cn.sc j y isBlt && chkEs gt es cn (l :: xs)
    | _ => false)
  | .isi j k a t, cn, x => (match x with
    | .Call (.Name y _) [l, .Name z _] [] _ => decide (y = ("isinstance" : Str)) && glb gt cn.sc j y isBlt && glb gt cn.sc k z isBlt && decide (bootBuiltins z = some (.type t.nm)) && decide (z ≠ ("__name__" : Str)) && notStar l && chkE gt a cn l
    | _ => false)
  | .lc _ vs t it c e, cn, x => (match x with
    | .ListComp elt [⟨tg, iter, ifs, 0⟩] scope _ => blkC cn.N cn.sc scope (ownOf cn.N vs) && t.ix.all (vs.contains ·) && notSet iter && tgB (blkCn cn scope) t tg && chkI gt it cn iter tg && chkC gt c (blkCn cn scope) ifs && chkE gt e (blkCn cn scope) elt
    | _ => false)
  | .lc2 _ vs t it c t1 it1 c1 e, cn, x => (match x with
    | .ListComp elt [⟨tg, iter, ifs, 0⟩, ⟨tg1, iter1, ifs1, 0⟩] scope _ => blkC cn.N cn.sc scope (ownOf cn.N vs) && t.ix.all (vs.contains ·) && t1.ix.all (vs.contains ·) && notSet iter && notSet iter1 && tgB (blkCn cn scope) t tg && tgB (blkCn cn scope) t1 tg1 && chkI gt it cn iter tg && chkC gt c (blkCn cn scope) ifs &&
        chkI gt it1 (blkCn cn scope) iter1 tg1 && chkC gt c1 (blkCn cn scope) ifs1 && chkE gt e (blkCn cn scope) elt
    | _ => false)
  | .gen j b vs t it c e, cn, x => (match x with
    | .Call (.Name y _) [.GeneratorExp elt [⟨tg, iter, ifs, 0⟩] scope _] [] _ => decide (y = (if b then ("any" : Str) else ("all" : Str))) && glb gt cn.sc j y isBlt && cn.tb && decide (0 < cn.ga) && genC cn.N cn.sc scope (ownOf cn.N vs) && t.ix.all (vs.contains ·) && notDisp iter &&
        tgB (genCn cn scope) t tg && chkI gt it cn iter tg && chkC gt c (genCn cn scope) ifs && chkE gt e (genCn cn scope) elt
    | _ => false)
  | .frz e, cn, x => chkE gt e cn x
  | .dct ks es, cn, x => (match x with
    | .Dict keys vals _ => decide (ks.length = es.len) && decide (ks.length ≤ 15) && decide (ks ≠ []) && chkKs gt ks es cn keys vals
    | _ => false)
  | .app o e, cn, x => (match x with
    | .Call (.Attribute l m ap) [r] [] cp => decide (m = ("append" : Str)) && isNm l && (ap.endLine == cp.line) && notStar r && chkE gt o cn l && chkE gt e cn r
    | _ => false)
  | .rem o e, cn, x => (match x with
    | .Call (.Attribute l m ap) [r] [] cp => decide (m = ("remove" : Str)) && isNm l && (ap.endLine == cp.line) && notStar r && chkE gt o cn l && chkE gt e cn r
    | _ => false)
def chkO (gt : List (Str × Gk)) : Oe → Cn → Option Expr → Bool
  | .no, _, x => x.isNone
  | .yes e, cn, x => (match x with
    | some y => chkE gt e cn y
    | none => false)
def chkC (gt : List (Str × Gk)) : Oe → Cn → List Expr → Bool
  | .no, _, x => x.isEmpty
  | .yes e, cn, x => (match x with
    | [y] => chkE gt e cn y && tOk e y
    | _ => false)
def chkEs (gt : List (Str × Gk)) : Es → Cn → List Expr → Bool
  | .nil, _, x => x.isEmpty
  | .cons e es, cn, x => (match x with
    | y :: ys => notStar y && chkE gt e cn y && chkEs gt es cn ys
    | [] => false)
def chkKs (gt : List (Str × Gk)) (ks : List Key) : Es → Cn → List (Option Expr) → List Expr → Bool
  | .nil, _, k, v => k.isEmpty && v.isEmpty && ks.isEmpty
  | .cons e es, cn, k, v => (match ks, k, v with
    | .inr z :: ks', some (.Constant (.str z') _ _) :: k', y :: v' => decide (z = z') && chkE gt e cn y && chkKs gt ks' es cn k' v'
    | _, _, _ => false)
def chkI (gt : List (Str × Gk)) : It' → Cn → Expr → Expr → Bool
  | .seq e, cn, x, _ => chkE gt e cn x
  | .rng1 j a, cn, x, _ => (match x with
    | .Call (.Name y _) [l] [] _ => decide (y = ("range" : Str)) && glb gt cn.sc j y isBlt && chkEs gt a cn [l]
    | _ => false)
  | .rng2 j a, cn, x, _ => (match x with
    | .Call (.Name y _) [l, r] [] _ => decide (y = ("range" : Str)) && glb gt cn.sc j y isBlt && chkEs gt a cn [l, r]
    | _ => false)
  | .zip j es, cn, x, _ => (match x with
    | .Call (.Name y _) (l :: xs) [] _ => decide (y = ("zip" : Str)) && glb gt cn.sc j y isBlt && chkEs gt es cn (l :: xs)
    | _ => false)
  | .zipS j e, cn, x, _ => (match x with
    | .Call (.Name y _) [.Starred l _] [] _ => decide (y = ("zip" : Str)) && glb gt cn.sc j y isBlt && chkE gt e cn l
    | _ => false)
  | .enm j a, cn, x, tg => (match x, tg with
    | .Call (.Name y _) [l] [] _, .Tuple _ _ _ => decide (y = ("enumerate" : Str)) && glb gt cn.sc j y isBlt && chkEs gt a cn [l]
    | _, _ => false)
end
end PB

set_option maxHeartbeats 4000000
namespace PB
open PySem PySem.Spec PyProof.Rows L2

/-- what is known of the globals and the room in a context -/
structure COk (gt : List (Str × Gk)) (F : Fns) (k : Nat) (E : XW) (cn : Cn) (X : Cx) : Prop where
  calm : X.calm = true
  xe : X.xe = fun _ _ => False
  nod : X.N.Nodup
  N : X.N = cn.N
  sc : X.env.scope = cn.sc
  fl : ∀ y, cn.fl y = true → X.fn y = true
  kind : cn.sc.kind = .function
  hd : X.A.handled = none
  dp : X.A.depth + 8 * k + 20 + cn.ga < recursionLimit
  un : X.A.units + 64 * k + 500 + 8 * cn.ga < cLine
  gd : X.A.guards = some []
  gb : ∀ (j : Nat) (y : Str) (g : Gk), gt[j]? = some (y, g) → match g with
    | .blt => X.mg y = none
    | .cst d => ∃ v u, X.mg y = some u ∧ RelV v u ∧ ∀ lv H, DenD X.K lv H d v
    | .fn i n => ∃ f fd ps, X.mg y = some (.ref f) ∧ PySem.W.keepIn X.K (.ref f) = true ∧ Binds X.K fd ps [] ∧ FnG X.prog X.w X.K X.mg X.base k f fd ps (spD X.K E.ts (F i) n)
  tab : cn.tb = true → ∃ c P, GxR.TabB X.base X.mg c P ∧ X.env.code = .ref c ∧ P ∈ E.ts
section
variable {gt : List (Str × Gk)} {F : Fns} {k : Nat} {E : XW} {cn : Cn} {X : Cx}
theorem COk.room (h : COk gt F k E cn X) : RoomG k X.A := ⟨h.hd, by have := h.dp; omega, by have := h.un; omega, h.gd⟩
theorem COk.hu (h : COk gt F k E cn X) : X.A.units + 100 < cLine := by have := h.un; omega
theorem COk.dep (h : COk gt F k E cn X) : X.A.depth < recursionLimit := by have := h.dp; omega
theorem COk.no (h : COk gt F k E cn X) : COk gt F k E.no cn X := ⟨h.calm, h.xe, h.nod, h.N, h.sc, h.fl, h.kind, h.hd, h.dp, h.un, h.gd, h.gb, h.tab⟩
theorem relS_kind {scope sc : Scope} : (relS scope sc).kind = scope.kind := rfl
theorem COk.blk (h : COk gt F k E cn X) {scope : Scope} (hk : scope.kind = .function) (s : Shared) (H : Hp) (C : Addr) (cl : List (Str × Addr)) (fp : List Addr) : COk gt F k E.no (blkCn cn scope) (X.blk s H scope (compEnvC scope cl C X.env) fp) := by
  refine ⟨h.calm, rfl, h.nod, h.N, ?_, fun y hy => hy, hk, h.hd, h.dp, h.un, h.gd, h.gb, h.tab⟩
  show relabel scope X.env = relS scope cn.sc
  rw [← h.sc]
  rfl
theorem COk.gen (h : COk gt F k E cn X) {scope : Scope} (hk : scope.kind = .function) (hga : 0 < cn.ga) (s : Shared) (H : Hp) (C : Addr) (cl : List (Str × Addr)) (code : Value) (fp : List Addr) (pn : List (Addr × Obj)) :
    COk gt F k E.no (genCn cn scope) (gcx X (X.A.in1.in1.deeper (genEnv scope cl C code builtinsNs X.env)) s H (genEnv scope cl C code builtinsNs X.env) fp pn) := by
  have hdp := h.dp
  have hun := h.un
  refine ⟨h.calm, rfl, h.nod, h.N, rfl, fun y hy => (Bool.false_ne_true hy).elim, hk, h.hd, ?_, ?_, h.gd, h.gb, fun z => (Bool.false_ne_true z).elim⟩
  · show X.A.depth + 1 + 8 * k + 20 + (cn.ga - 1) < recursionLimit
    omega
  · show X.A.units + 1 + 1 + 3 + 64 * k + 500 + 8 * (cn.ga - 1) < cLine
    omega
theorem COk.glob (h : COk gt F k E cn X) {j : Nat} {y : Str} {p : Gk → Bool} (c : glb gt cn.sc j y p = true) : Gl X y ∧ (y == ("__debug__" : Str)) = false ∧ ∃ g, gt[j]? = some (y, g) ∧ p g = true := by
  simp only [glb, Bool.and_eq_true, decide_eq_true_eq, Bool.not_eq_true'] at c
  obtain ⟨⟨c1, c2⟩, c3⟩ := c
  refine ⟨by show X.env.scope.names.lookup y = _; rw [h.sc]; exact c1, c2, ?_⟩
  split at c3
  · rename_i z g e
    rw [Bool.and_eq_true, decide_eq_true_eq] at c3
    rw [c3.1] at e
    exact ⟨g, e, c3.2⟩
  · cases c3
theorem COk.blt (h : COk gt F k E cn X) {j : Nat} {y : Str} (c : glb gt cn.sc j y isBlt = true) : Gl X y ∧ X.mg y = none := by
  obtain ⟨c1, c2, g, e, q⟩ := h.glob c
  cases g with
  | blt => exact ⟨c1, h.gb j y _ e⟩
  | _ => cases q
theorem es_len {F : Fns} : ∀ {es : Es} {ρ : Env0'} {S : Sto} {xs : List Xv} {S' : Sto}, denEs F es ρ S = .ok xs S' → xs.length = es.len
  | .nil, ρ, S, xs, S', h => by
    simp only [denEs, pNil] at h
    cases h; rfl
  | .cons e es, ρ, S, xs, S', h => by
    simp only [denEs, pCons] at h
    obtain ⟨x, S1, e1, h⟩ := R.bind_ok h
    obtain ⟨ys, S2, e2, h⟩ := R.bind_ok h
    cases h
    simp [Es.len, es_len e2]
theorem es_small {F : Fns} {es : Es} (h : es.len ≤ 1000) : ∀ ρ S xs S', denEs F es ρ S = .ok xs S' → xs.length ≤ sizeLine := fun ρ S xs S' e => by
  rw [es_len e, sizeLine_eq]; omega

theorem nm_ok (h : COk gt F k E cn X) {i : Nat} {e : Expr} (c : nmB cn i e = true) : PG X e (gName i) := by
  unfold nmB at c
  split at c
  · rename_i y p
    simp only [Bool.and_eq_true, Bool.or_eq_true, decide_eq_true_eq] at c
    rw [← h.N, ← h.sc] at c
    rcases c.2 with q | q
    · exact pg_name h.nod c.1 (.inl q) (.inr q)
    · exact pg_name h.nod c.1 (.inr q.1) (.inl (h.fl _ q.2))
  · cases c
theorem nms_ok (h : COk gt F k E cn X) : ∀ {is : List Nat} {es : List Expr}, nmsB cn is es = true → PGs X es (gNames is) ∧ (assignEach es X.env).length = is.length ∧ (assignEach es X.env).findIdx? (·.1) = none
  | [], [], _ => ⟨pgs_nil, rfl, rfl⟩
  | i :: is, e :: es, c => by
    unfold nmsB at c
    rw [Bool.and_eq_true] at c
    obtain ⟨h1, h2, h3⟩ := nms_ok h c.2
    have g := nm_ok h c.1
    cases e with
    | Name y p =>
      refine ⟨pgs_cons g h1 rfl, ?_, ?_⟩
      · show (assignEach es X.env).length + 1 = is.length + 1
        rw [h2]
      · show ((false, _) :: assignEach es X.env).findIdx? (·.1) = none
        rw [List.findIdx?_cons]
        simp [h3]
    | _ => cases c.1
  | [], _ :: _, c => by cases c
  | _ :: _, [], c => by cases c
theorem tg_ok (h : COk gt F k E cn X) {t : Tg} {e : Expr} (c : tgB cn t e = true) : ∃ g, PG X e g ∧ GOk X.K g t ∧ g = (match t with | .nm i => gName i | .tp is => gTup X.K is.length (gNames is)) := by
  cases t with
  | nm i => exact ⟨_, nm_ok h c, gok_nm, rfl⟩
  | tp is =>
    simp only [tgB] at c
    split at c
    · rename_i es kk p
      obtain ⟨h1, h2, h3⟩ := nms_ok h c
      exact ⟨_, pg_tup h.calm h1 h2 h3, gok_tp, rfl⟩
    · cases c
def gOf (K : PySem.W.Frag) : Tg → TG
  | .nm i => gName i
  | .tp is => gTup K is.length (gNames is)
theorem tg_ok' (h : COk gt F k E cn X) {t : Tg} {e : Expr} (c : tgB cn t e = true) : PG X e (gOf X.K t) := by
  obtain ⟨g, h1, _, h3⟩ := tg_ok h c
  cases t <;> (rw [h3] at h1; exact h1)
theorem gok_of {K : PySem.W.Frag} (t : Tg) : GOk K (gOf K t) t := by
  cases t with
  | nm i => exact gok_nm
  | tp is => exact gok_tp
theorem pts_yes {E : XW} : PTs X [] (tDt X.K E tYes') := ⟨fun pins s σ H Q I h => pts_nil.run pins s σ H Q I (by
  obtain ⟨ρ, S, mu, hs, en, s, h⟩ := h
  exact h.here s)⟩
end

theorem es_star {gt : List (Str × Gk)} : ∀ {es : Es} {cn : Cn} {xs : List Expr}, chkEs gt es cn xs = true → xs.all notStar = true
  | .nil, cn, xs, c => by
    unfold chkEs at c
    cases xs with
    | nil => rfl
    | cons _ _ => cases c
  | .cons e es, cn, xs, c => by
    unfold chkEs at c
    cases xs with
    | nil => cases c
    | cons y ys =>
      simp only [Bool.and_eq_true] at c
      rw [List.all_cons, c.1.1, es_star c.2]
      rfl
/-- is e a conjunction or a disjunction -/
def isJn : E → Bool
  | .and _ _ => true
  | .or _ _ => true
  | _ => false
theorem jn_of {gt : List (Str × Gk)} {e : E} {cn : Cn} {op : _} {es : List Expr} {p : Pos} (c : chkE gt e cn (.BoolOp op es p) = true) (t : tOk e (.BoolOp op es p) = true) : isJn e = true := by
  cases e with
  | and a b => rfl
  | or a b => rfl
  | frz a => unfold tOk at t; cases t
  | not a => unfold chkE at c; cases c
  | cmp o a b => unfold chkE at c; cases c
  | chn o o' a b d => unfold chkE at c; cases c
  | isN a => unfold chkE at c; cases c
  | ntN a => unfold chkE at c; cases c
  | _ => unfold tOk at t; cases t
mutual
theorem soundE {gt : List (Str × Gk)} {F : Fns} {k : Nat} : ∀ (e : E) (cn : Cn) (x : Expr) (E : XW) (X : Cx), COk gt F k E cn X → chkE gt e cn x = true → PE X x (tD X.K E (denE F e))
  | .var i, cn, x, E, X, h, c => by
    unfold chkE at c
    split at c
    · rename_i y p
      simp only [Bool.and_eq_true, decide_eq_true_eq, Bool.not_eq_true'] at c
      unfold denE
      exact e_var (pe_var (by rw [h.N]; exact c.1.1.1) (by rw [h.sc]; exact visB_ok c.1.1.2) c.1.2 c.2)
    · cases c
  | .cst d, cn, x, E, X, h, c => by
    unfold chkE at c
    split at c
    · rename_i cc j p
      unfold denE
      unfold constB at c
      split at c
      · rw [of_decide_eq_true c]; exact e_cst pe_int fun _ _ => by unfold DenD; rfl
      · rw [of_decide_eq_true c]; exact e_cst pe_str fun _ _ => by unfold DenD; rfl
      · rw [beq_iff_eq.mp c]; exact e_cst pe_bl fun _ _ => by unfold DenD; rfl
      · exact e_cst pe_non fun _ _ => by unfold DenD; rfl
      · cases c
    · cases c
  | .gl j d, cn, x, E, X, h, c => by
    unfold chkE at c
    split at c
    · rename_i y p
      obtain ⟨g1, g2, g, e, q⟩ := h.glob c
      cases g with
      | cst d' =>
        obtain ⟨v, u, hm, r, hv⟩ := h.gb j y _ e
        unfold denE
        rw [eqD_eq _ _ q]
        exact e_cst (pe_glob g1 hm r g2) hv
      | _ => cases q
    · cases c
  | .bin op a b, cn, x, E, X, h, c => by
    unfold chkE at c
    split at c
    · rename_i l o r p
      simp only [Bool.and_eq_true, decide_eq_true_eq] at c
      unfold denE
      rw [c.1.1]
      exact e_bin (soundE a cn l E X h c.1.2) (soundE b cn r E X h c.2)
    · cases c
  | .neg a, cn, x, E, X, h, c => by
    unfold chkE at c
    split at c
    · unfold denE
      exact e_neg (soundE a cn _ E X h c)
    · cases c
  | .not a, cn, x, E, X, h, c => by
    unfold chkE at c
    split at c
    · unfold denE
      exact e_not (soundE a cn _ E X h c)
    · cases c
  | .cmp op a b, cn, x, E, X, h, c => by
    unfold chkE at c
    split at c
    · simp only [Bool.and_eq_true, decide_eq_true_eq, Bool.not_eq_true'] at c
      unfold denE
      rw [c.1.1.1]
      exact e_cmp h.hu (soundE a cn _ E X h c.1.2) (soundE b cn _ E X h c.2) c.1.1.2
    · cases c
  | .chn op op' a b cc, cn, x, E, X, h, c => by
    unfold chkE at c
    split at c
    · simp only [Bool.and_eq_true, decide_eq_true_eq, Bool.not_eq_true'] at c
      unfold denE
      rw [c.1.1.1.1.1, c.1.1.1.1.2]
      exact e_chain h.hu (soundE a cn _ E X h c.1.1.2) (soundE b cn _ E X h c.1.2) (soundE cc cn _ E X h c.2) c.1.1.1.2
    · cases c
  | .isN a, cn, x, E, X, h, c => by
    unfold chkE at c
    split at c
    · unfold denE
      exact e_isN (soundE a cn _ E X h c)
    · cases c
  | .ntN a, cn, x, E, X, h, c => by
    unfold chkE at c
    split at c
    · unfold denE
      exact e_ntN (soundE a cn _ E X h c)
    · cases c
  | .and a b, cn, x, E, X, h, c => by
    unfold chkE at c
    split at c
    · rw [Bool.and_eq_true] at c
      unfold denE
      exact e_and (soundE a cn _ E X h c.1) (pe_one (soundE b cn _ E X h c.2))
    · rw [Bool.and_eq_true] at c
      unfold denE
      exact e_and (soundE a cn _ E X h c.1) (soundE b cn _ E X h c.2)
    · cases c
  | .or a b, cn, x, E, X, h, c => by
    unfold chkE at c
    split at c
    · rw [Bool.and_eq_true] at c
      unfold denE
      exact e_or (soundE a cn _ E X h c.1) (pe_one (soundE b cn _ E X h c.2))
    · rw [Bool.and_eq_true] at c
      unfold denE
      exact e_or (soundE a cn _ E X h c.1) (soundE b cn _ E X h c.2)
    · cases c
  | .ife t a b, cn, x, E, X, h, c => by
    unfold chkE at c
    split at c
    · simp only [Bool.and_eq_true] at c
      unfold denE
      exact e_ife (soundT t cn _ E X h c.1.1.1 c.1.1.2) (soundE a cn _ E X h c.1.2) (soundE b cn _ E X h c.2)
    · cases c
  | .tup es, cn, x, E, X, h, c => by
    unfold chkE at c
    split at c
    · simp only [Bool.and_eq_true, decide_eq_true_eq] at c
      unfold denE
      exact e_tup (soundEs es cn _ E X h c.2) (es_small c.1)
    · cases c
  | .lst es, cn, x, E, X, h, c => by
    unfold chkE at c
    split at c
    · simp only [Bool.and_eq_true, decide_eq_true_eq] at c
      unfold denE
      exact e_lst (soundEs es cn _ E X h c.2) (es_small c.1)
    · cases c
  | .lstR es, cn, x, E, X, h, c => by
    unfold chkE at c
    split at c
    · simp only [Bool.and_eq_true, decide_eq_true_eq] at c
      unfold denE
      exact e_lstR (soundEs es cn _ E X h c.2) (es_small c.1)
    · cases c
  | .ix a b, cn, x, E, X, h, c => by
    unfold chkE at c
    split at c
    · simp only [Bool.and_eq_true] at c
      unfold denE
      exact e_ix h.hu (soundE a cn _ E X h c.1.2) (soundE b cn _ E X h c.2) (plainIx c.1.1)
    · cases c
  | .sl a lo hi, cn, x, E, X, h, c => by
    unfold chkE at c
    split at c
    · simp only [Bool.and_eq_true] at c
      unfold denE
      exact e_slice (soundE a cn _ E X h c.1.1) (soundO lo cn _ E X h c.1.2) (soundO hi cn _ E X h c.2)
    · cases c
  | .call j f es, cn, x, E, X, h, c => by
    unfold chkE at c
    split at c
    · rename_i y p1 xs p2
      rw [Bool.and_eq_true] at c
      obtain ⟨g1, g2, g, e, q⟩ := h.glob c.1
      cases g with
      | fn i n =>
        simp only [isFn, Bool.and_eq_true, decide_eq_true_eq] at q
        obtain ⟨q1, q2⟩ := q
        subst q1
        obtain ⟨fa, fd, ps, hm, hk, hb, hF⟩ := h.gb j y _ e
        unfold denE
        cases es with
        | nil =>
          have c2 := c.2
          unfold chkEs at c2
          cases xs with
          | nil =>
            rw [← q2] at hF
            exact e_call0 hF h.room g1 hm hk hb g2
          | cons _ _ => cases c2
        | cons e1 es1 =>
          have hs := soundEs (.cons e1 es1) cn xs E X h c.2
          have hst := es_star c.2
          have c2 := c.2
          unfold chkEs at c2
          cases xs with
          | nil => cases c2
          | cons z zs =>
            rw [List.all_cons, Bool.and_eq_true] at hst
            exact e_call hF h.room g1 hm hk hb hs (fun ρ S xs S' e => by rw [es_len e]; exact q2) g2 (star_cons hst.1) (star_all hst.2)
      | _ => cases q
    · cases c
  | .bi j b es, cn, x, E, X, h, c => by
    unfold chkE at c
    split at c
    · rename_i y p1 l xs p2
      simp only [Bool.and_eq_true, decide_eq_true_eq] at c
      obtain ⟨⟨c1, c2⟩, c3⟩ := c
      subst c1
      obtain ⟨g1, hm⟩ := h.blt c2
      have hst := es_star c3
      rw [List.all_cons, Bool.and_eq_true] at hst
      unfold denE
      exact e_bi h.calm h.gd h.hu b g1 hm (soundEs es cn _ E X h c3) (star_cons hst.1) (star_all hst.2)
    · cases c
  | .isi j kk a t, cn, x, E, X, h, c => by
    unfold chkE at c
    split at c
    · simp only [Bool.and_eq_true, decide_eq_true_eq] at c
      obtain ⟨⟨⟨⟨⟨⟨c1, c2⟩, c3⟩, c4⟩, c5⟩, c6⟩, c7⟩ := c
      subst c1
      obtain ⟨g1, hm⟩ := h.blt c2
      obtain ⟨g2, hm2⟩ := h.blt c3
      obtain ⟨_, d2, _⟩ := h.glob c3
      unfold denE
      exact e_isi g1 hm g2 hm2 c4 c5 d2 (soundE a cn _ E X h c7) (star_cons c6)
    · cases c
  | .lc r vs t it cc e, cn, x, E, X, h, c => by
    unfold chkE at c
    split at c
    · rename_i elt tg iter ifs scope pos
      simp only [Bool.and_eq_true] at c
      obtain ⟨⟨⟨⟨⟨⟨c1, c2⟩, c3⟩, c4⟩, c5⟩, c6⟩, c7⟩ := c
      rw [← h.N, ← h.sc] at c1
      have ok := blkOk_by c1
      have hk := ok.kind
      have sub : ∀ i ∈ t.ix, i ∈ vs := fun i hi => by simpa using List.all_eq_true.mp c2 i hi
      have key := pe_lc (pos := pos) (g := gOf X.K t) (tt := tDt X.K E.no (denC F cc)) (te := tD X.K E.no (denE F e)) h.calm h.nod (soundI it cn _ _ E X h c5) ok (fun s H C cl fp => tg_ok' (h.blk hk s H C cl fp) c4) (fun s H C cl fp => soundC cc _ _ E.no _ (h.blk hk s H C cl fp) c6) (fun s H C cl fp => soundE e _ _ E.no _ (h.blk hk s H C cl fp) c7) (fold_no c3)
      rw [ownOf_snd] at key
      unfold denE
      cases r with
      | true => exact PE.imp key fun σ H Q hh => lcR_red (gok_of t) sub hh
      | false => exact PE.imp key fun σ H Q hh => lc_red (gok_of t) sub hh
    · cases c
  | .lc2 r vs t it cc t1 it1 cc1 e, cn, x, E, X, h, c => by
    unfold chkE at c
    split at c
    · rename_i elt tg iter ifs tg1 iter1 ifs1 scope pos
      simp only [Bool.and_eq_true] at c
      obtain ⟨⟨⟨⟨⟨⟨⟨⟨⟨⟨⟨c1, c2⟩, c2'⟩, c3⟩, c3'⟩, c4⟩, c4'⟩, c5⟩, c6⟩, c5'⟩, c6'⟩, c7⟩ := c
      rw [← h.N, ← h.sc] at c1
      have ok := blkOk_by c1
      have hk := ok.kind
      have sub : ∀ i ∈ t.ix, i ∈ vs := fun i hi => by simpa using List.all_eq_true.mp c2 i hi
      have sub1 : ∀ i ∈ t1.ix, i ∈ vs := fun i hi => by simpa using List.all_eq_true.mp c2' i hi
      have key := pe_lc2 (pos := pos) (g := gOf X.K t) (g1 := gOf X.K t1) (tt := tDt X.K E.no (denC F cc)) (tt1 := tDt X.K E.no (denC F cc1)) (wi1 := iD X.K E.no (denI F it1)) (te := tD X.K E.no (denE F e)) (vs1 := t1.ix) h.calm h.nod (soundI it cn _ _ E X h c5) ok
        (fun i hi => by rw [ownOf_snd]; exact sub1 i hi) (fun s H C cl fp => tg_ok' (h.blk hk s H C cl fp) c4) (fun s H C cl fp => soundC cc _ _ E.no _ (h.blk hk s H C cl fp) c6)
        (fun s H C cl fp => soundI it1 _ _ _ E.no _ (h.blk hk s H C cl fp) c5') (fun s H C cl fp => tg_ok' (h.blk hk s H C cl fp) c4') (fun s H C cl fp => soundC cc1 _ _ E.no _ (h.blk hk s H C cl fp) c6') (fun s H C cl fp => soundE e _ _ E.no _ (h.blk hk s H C cl fp) c7) (fold_no c3) (fun _ => fold_no c3')
      rw [ownOf_snd] at key
      unfold denE
      cases r with
      | true => exact PE.imp key fun σ H Q hh => lc2R_red (gok_of t) (gok_of t1) sub hh
      | false => exact PE.imp key fun σ H Q hh => lc2_red (gok_of t) (gok_of t1) sub hh
    · cases c
  | .gen j b vs t it cc e, cn, x, E, X, h, c => by
    unfold chkE at c
    split at c
    · rename_i y p1 elt tg iter ifs scope p2 p3
      simp only [Bool.and_eq_true, decide_eq_true_eq] at c
      obtain ⟨⟨⟨⟨⟨⟨⟨⟨⟨⟨c1, c2⟩, c3⟩, c4⟩, c5⟩, c6⟩, c7⟩, c8⟩, c9⟩, c10⟩, c11⟩ := c
      obtain ⟨g1, hm⟩ := h.blt c2
      rw [← h.N, ← h.sc] at c5
      have ok := genC_ok c5
      have hk := ok.kind
      obtain ⟨cd, P, TB, hcode, hP⟩ := h.tab c3
      have sub : ∀ i ∈ t.ix, i ∈ vs := fun i hi => by simpa using List.all_eq_true.mp c6 i hi
      unfold denE
      cases b with
      | true =>
        rw [if_pos rfl] at c1
        subst c1
        have key := pe_any (p := p1) (pos := p3) (gpos := p2) (g := gOf X.K t) (tt := tDt X.K E.no (denC F cc)) (te := tD X.K E.no (denE F e)) h.calm h.dep h.nod g1 hm TB hcode ok (soundI it cn _ _ E X h c9) (fun s H C code fp pn => tg_ok' (h.gen hk c4 s H C (cloFrom X.env.cells scope.names []) code fp pn) c8) (fun s H C code fp pn => soundC cc _ _ E.no _ (h.gen hk c4 s H C (cloFrom X.env.cells scope.names []) code fp pn) c10) (fun s H C code fp pn => soundE e _ _ E.no _ (h.gen hk c4 s H C (cloFrom X.env.cells scope.names []) code fp pn) c11) (genFold_no c7)
        rw [ownOf_snd] at key
        exact PE.imp key fun σ H Q hh => gen_red hP (gok_of t) sub hh
      | false =>
        rw [if_neg Bool.false_ne_true] at c1
        subst c1
        have key := pe_all (p := p1) (pos := p3) (gpos := p2) (g := gOf X.K t) (tt := tDt X.K E.no (denC F cc)) (te := tD X.K E.no (denE F e)) h.calm h.dep h.nod g1 hm TB hcode ok (soundI it cn _ _ E X h c9) (fun s H C code fp pn => tg_ok' (h.gen hk c4 s H C (cloFrom X.env.cells scope.names []) code fp pn) c8) (fun s H C code fp pn => soundC cc _ _ E.no _ (h.gen hk c4 s H C (cloFrom X.env.cells scope.names []) code fp pn) c10) (fun s H C code fp pn => soundE e _ _ E.no _ (h.gen hk c4 s H C (cloFrom X.env.cells scope.names []) code fp pn) c11) (genFold_no c7)
        rw [ownOf_snd] at key
        exact PE.imp key fun σ H Q hh => gen_red hP (gok_of t) sub hh
    · cases c
  | .frz e, cn, x, E, X, h, c => by
    unfold chkE at c
    unfold denE
    exact e_frz (soundE e cn x E X h c)
  | .dct ks es, cn, x, E, X, h, c => by
    unfold chkE at c
    split at c
    · rename_i keys vals p
      simp only [Bool.and_eq_true, decide_eq_true_eq] at c
      obtain ⟨⟨⟨c1, c2⟩, c3⟩, c4⟩ := c
      obtain ⟨h1, h2, h3, h4, h5⟩ := soundKs es ks cn keys vals E X p h c4
      unfold denE
      exact e_dct (by rw [h4]) h1 h2 (by omega) (fun e => c3 (List.eq_nil_of_length_eq_zero (by rw [h5, e]; rfl))) (by omega) c2
    · cases c
  | .app o e, cn, x, E, X, h, c => by
    unfold chkE at c
    split at c
    · simp only [Bool.and_eq_true, decide_eq_true_eq] at c
      obtain ⟨⟨⟨⟨⟨c1, c2⟩, c3⟩, c4⟩, c5⟩, c6⟩ := c
      subst c1
      unfold denE
      exact e_app (soundE o cn _ E X h c5) (soundE e cn _ E X h c6) (attr_no c2) c3 (star_cons c4)
    · cases c
  | .rem o e, cn, x, E, X, h, c => by
    unfold chkE at c
    split at c
    · simp only [Bool.and_eq_true, decide_eq_true_eq] at c
      obtain ⟨⟨⟨⟨⟨c1, c2⟩, c3⟩, c4⟩, c5⟩, c6⟩ := c
      subst c1
      unfold denE
      exact e_rem h.hu (soundE o cn _ E X h c5) (soundE e cn _ E X h c6) (attr_no c2) c3 (star_cons c4)
    · cases c
theorem soundT {gt : List (Str × Gk)} {F : Fns} {k : Nat} : ∀ (e : E) (cn : Cn) (x : Expr) (E : XW) (X : Cx), COk gt F k E cn X → chkE gt e cn x = true → tOk e x = true → PT X x (tDt X.K E (tst (denE F e)))
  | .and a b, cn, x, E, X, h, c, t => (soundW (.and a b) cn x E X h c t rfl).pt
  | .or a b, cn, x, E, X, h, c, t => (soundW (.or a b) cn x E X h c t rfl).pt
  | .not a, cn, x, E, X, h, c, t => by
    unfold chkE at c
    unfold tOk at t
    split at c
    · unfold denE
      exact t_not (soundT a cn _ E X h c t)
    · cases c
  | .cmp op a b, cn, x, E, X, h, c, t => by
    unfold chkE at c
    split at c
    · simp only [Bool.and_eq_true, decide_eq_true_eq, Bool.not_eq_true'] at c
      unfold denE
      rw [c.1.1.1]
      exact t_cmp h.hu (soundE a cn _ E X h c.1.2) (soundE b cn _ E X h c.2) c.1.1.2
    · cases c
  | .chn op op' a b cc, cn, x, E, X, h, c, t => by
    unfold chkE at c
    split at c
    · simp only [Bool.and_eq_true, decide_eq_true_eq, Bool.not_eq_true'] at c
      unfold denE
      rw [c.1.1.1.1.1, c.1.1.1.1.2]
      exact t_chain h.hu (soundE a cn _ E X h c.1.1.2) (soundE b cn _ E X h c.1.2) (soundE cc cn _ E X h c.2) c.1.1.1.2
    · cases c
  | .isN a, cn, x, E, X, h, c, t => by
    unfold chkE at c
    split at c
    · unfold denE
      exact t_isN (soundE a cn _ E X h c)
    · cases c
  | .ntN a, cn, x, E, X, h, c, t => by
    unfold chkE at c
    split at c
    · unfold denE
      exact t_ntN (soundE a cn _ E X h c)
    · cases c
  | .var i, cn, x, E, X, h, c, t => t_val (soundE (.var i) cn x E X h c) (isTrue_no (by unfold tOk at t; exact t))
  | .cst d, cn, x, E, X, h, c, t => t_val (soundE (.cst d) cn x E X h c) (isTrue_no (by unfold tOk at t; exact t))
  | .gl j d, cn, x, E, X, h, c, t => t_val (soundE (.gl j d) cn x E X h c) (isTrue_no (by unfold tOk at t; exact t))
  | .bin op a b, cn, x, E, X, h, c, t => t_val (soundE (.bin op a b) cn x E X h c) (isTrue_no (by unfold tOk at t; exact t))
  | .neg a, cn, x, E, X, h, c, t => t_val (soundE (.neg a) cn x E X h c) (isTrue_no (by unfold tOk at t; exact t))
  | .ife c' a b, cn, x, E, X, h, c, t => t_val (soundE (.ife c' a b) cn x E X h c) (isTrue_no (by unfold tOk at t; exact t))
  | .tup es, cn, x, E, X, h, c, t => t_val (soundE (.tup es) cn x E X h c) (isTrue_no (by unfold tOk at t; exact t))
  | .lst es, cn, x, E, X, h, c, t => t_val (soundE (.lst es) cn x E X h c) (isTrue_no (by unfold tOk at t; exact t))
  | .lstR es, cn, x, E, X, h, c, t => t_val (soundE (.lstR es) cn x E X h c) (isTrue_no (by unfold tOk at t; exact t))
  | .ix a b, cn, x, E, X, h, c, t => t_val (soundE (.ix a b) cn x E X h c) (isTrue_no (by unfold tOk at t; exact t))
  | .sl a l r, cn, x, E, X, h, c, t => t_val (soundE (.sl a l r) cn x E X h c) (isTrue_no (by unfold tOk at t; exact t))
  | .call j f es, cn, x, E, X, h, c, t => t_val (soundE (.call j f es) cn x E X h c) (isTrue_no (by unfold tOk at t; exact t))
  | .bi j b es, cn, x, E, X, h, c, t => t_val (soundE (.bi j b es) cn x E X h c) (isTrue_no (by unfold tOk at t; exact t))
  | .isi j kk a t', cn, x, E, X, h, c, t => t_val (soundE (.isi j kk a t') cn x E X h c) (isTrue_no (by unfold tOk at t; exact t))
  | .lc r vs t' it c' e, cn, x, E, X, h, c, t => t_val (soundE (.lc r vs t' it c' e) cn x E X h c) (isTrue_no (by unfold tOk at t; exact t))
  | .lc2 r vs t' it c' t1 it1 c1' e, cn, x, E, X, h, c, t => t_val (soundE (.lc2 r vs t' it c' t1 it1 c1' e) cn x E X h c) (isTrue_no (by unfold tOk at t; exact t))
  | .gen j b vs t' it c' e, cn, x, E, X, h, c, t => t_val (soundE (.gen j b vs t' it c' e) cn x E X h c) (isTrue_no (by unfold tOk at t; exact t))
  | .frz e, cn, x, E, X, h, c, t => by unfold tOk at t; cases t
  | .dct ks es, cn, x, E, X, h, c, t => t_val (soundE (.dct ks es) cn x E X h c) (isTrue_no (by unfold tOk at t; exact t))
  | .app o e, cn, x, E, X, h, c, t => t_val (soundE (.app o e) cn x E X h c) (isTrue_no (by unfold tOk at t; exact t))
  | .rem o e, cn, x, E, X, h, c, t => t_val (soundE (.rem o e) cn x E X h c) (isTrue_no (by unfold tOk at t; exact t))
theorem soundW {gt : List (Str × Gk)} {F : Fns} {k : Nat} : ∀ (e : E) (cn : Cn) (x : Expr) (E : XW) (X : Cx), COk gt F k E cn X → chkE gt e cn x = true → tOk e x = true → isJn e = true → PW X x (tDt X.K E (tst (denE F e)))
  | .and a b, cn, x, E, X, h, c, t, _ => by
    unfold chkE at c
    unfold tOk at t
    split at c
    · dsimp only at t
      rw [Bool.and_eq_true] at c t
      unfold denE
      exact w_and (soundT a cn _ E X h c.1 t.1) (w_and1 (soundT b cn _ E X h c.2 t.2))
    · dsimp only at t
      rw [Bool.and_eq_true] at c t
      unfold denE
      exact w_and (soundT a cn _ E X h c.1 t.1) (soundW b cn _ E X h c.2 t.2 (jn_of c.2 t.2))
    · cases c
  | .or a b, cn, x, E, X, h, c, t, _ => by
    unfold chkE at c
    unfold tOk at t
    split at c
    · dsimp only at t
      rw [Bool.and_eq_true] at c t
      unfold denE
      exact w_or (soundT a cn _ E X h c.1 t.1) (w_or1 (soundT b cn _ E X h c.2 t.2))
    · dsimp only at t
      rw [Bool.and_eq_true] at c t
      unfold denE
      exact w_or (soundT a cn _ E X h c.1 t.1) (soundW b cn _ E X h c.2 t.2 (jn_of c.2 t.2))
    · cases c
  | .var _, cn, x, E, X, h, c, t, j => by cases j
  | .cst _, cn, x, E, X, h, c, t, j => by cases j
  | .gl _ _, cn, x, E, X, h, c, t, j => by cases j
  | .bin _ _ _, cn, x, E, X, h, c, t, j => by cases j
  | .neg _, cn, x, E, X, h, c, t, j => by cases j
  | .not _, cn, x, E, X, h, c, t, j => by cases j
  | .cmp _ _ _, cn, x, E, X, h, c, t, j => by cases j
  | .chn _ _ _ _ _, cn, x, E, X, h, c, t, j => by cases j
  | .isN _, cn, x, E, X, h, c, t, j => by cases j
  | .ntN _, cn, x, E, X, h, c, t, j => by cases j
  | .ife _ _ _, cn, x, E, X, h, c, t, j => by cases j
  | .tup _, cn, x, E, X, h, c, t, j => by cases j
  | .lst _, cn, x, E, X, h, c, t, j => by cases j
  | .lstR _, cn, x, E, X, h, c, t, j => by cases j
  | .ix _ _, cn, x, E, X, h, c, t, j => by cases j
  | .sl _ _ _, cn, x, E, X, h, c, t, j => by cases j
  | .call _ _ _, cn, x, E, X, h, c, t, j => by cases j
  | .bi _ _ _, cn, x, E, X, h, c, t, j => by cases j
  | .isi _ _ _ _, cn, x, E, X, h, c, t, j => by cases j
  | .lc _ _ _ _ _ _, cn, x, E, X, h, c, t, j => by cases j
  | .lc2 _ _ _ _ _ _ _ _ _, cn, x, E, X, h, c, t, j => by cases j
  | .gen _ _ _ _ _ _ _, cn, x, E, X, h, c, t, j => by cases j
  | .frz _, cn, x, E, X, h, c, t, j => by cases j
  | .dct _ _, cn, x, E, X, h, c, t, j => by cases j
  | .app _ _, cn, x, E, X, h, c, t, j => by cases j
  | .rem _ _, cn, x, E, X, h, c, t, j => by cases j
theorem soundO {gt : List (Str × Gk)} {F : Fns} {k : Nat} : ∀ (e : Oe) (cn : Cn) (x : Option Expr) (E : XW) (X : Cx), COk gt F k E cn X → chkO gt e cn x = true → PO X x (tDo X.K E (denO F e))
  | .no, cn, x, E, X, h, c => by
    unfold chkO at c
    cases x with
    | none => exact o_none
    | some _ => cases c
  | .yes e, cn, x, E, X, h, c => by
    unfold chkO at c
    cases x with
    | none => cases c
    | some y => exact o_some (soundE e cn y E X h c)
theorem soundC {gt : List (Str × Gk)} {F : Fns} {k : Nat} : ∀ (e : Oe) (cn : Cn) (x : List Expr) (E : XW) (X : Cx), COk gt F k E cn X → chkC gt e cn x = true → PTs X x (tDt X.K E (denC F e))
  | .no, cn, x, E, X, h, c => by
    unfold chkC at c
    cases x with
    | nil => exact pts_yes
    | cons _ _ => cases c
  | .yes e, cn, x, E, X, h, c => by
    unfold chkC at c
    split at c
    · rw [Bool.and_eq_true] at c
      exact pts_one (soundT e cn _ E X h c.1 c.2)
    · cases c
theorem soundEs {gt : List (Str × Gk)} {F : Fns} {k : Nat} : ∀ (es : Es) (cn : Cn) (xs : List Expr) (E : XW) (X : Cx), COk gt F k E cn X → chkEs gt es cn xs = true → PA X xs (tDs X.K E (denEs F es))
  | .nil, cn, xs, E, X, h, c => by
    unfold chkEs at c
    cases xs with
    | nil => exact a_nil
    | cons _ _ => cases c
  | .cons e es, cn, xs, E, X, h, c => by
    unfold chkEs at c
    cases xs with
    | nil => cases c
    | cons y ys =>
      simp only [Bool.and_eq_true] at c
      exact a_cons (soundE e cn y E X h c.1.2) (soundEs es cn ys E X h c.2) (star_cons c.1.1)
theorem soundKs {gt : List (Str × Gk)} {F : Fns} {k : Nat} : ∀ (es : Es) (ks : List Key) (cn : Cn) (keys : List (Option Expr)) (vals : List Expr) (E : XW) (X : Cx) (pos : Pos), COk gt F k E cn X → chkKs gt ks es cn keys vals = true →
    PPs X pos keys vals ((ks.zip (denL F es)).map fun kp => (tC (kV kp.1), tD X.K E kp.2)) ∧ keys.all (·.isSome) = true ∧ keys.length = vals.length ∧ ks.length = (denL F es).length ∧ ks.length = keys.length
  | .nil, ks, cn, keys, vals, E, X, pos, h, c => by
    unfold chkKs at c
    simp only [Bool.and_eq_true, List.isEmpty_iff] at c
    obtain ⟨⟨c1, c2⟩, c3⟩ := c
    subst c1 c2 c3
    exact ⟨pps_nil, rfl, rfl, rfl, rfl⟩
  | .cons e es, ks, cn, keys, vals, E, X, pos, h, c => by
    unfold chkKs at c
    split at c
    · rename_i z ks' z' j p k' y v'
      simp only [Bool.and_eq_true, decide_eq_true_eq] at c
      obtain ⟨⟨c1, c2⟩, c3⟩ := c
      subst c1
      obtain ⟨h1, h2, h3, h4, h5⟩ := soundKs es ks' cn k' v' E X pos h c3
      refine ⟨pps_cons pe_str (soundE e cn y E X h c2) h1, ?_, ?_, ?_, ?_⟩
      · rw [List.all_cons, h2]; rfl
      · rw [List.length_cons, List.length_cons, h3]
      · unfold denL; rw [List.length_cons, List.length_cons, h4]
      · rw [List.length_cons, List.length_cons, h5]
    · cases c
theorem soundI {gt : List (Str × Gk)} {F : Fns} {k : Nat} : ∀ (it : It') (cn : Cn) (x tg : Expr) (E : XW) (X : Cx), COk gt F k E cn X → chkI gt it cn x tg = true → PI X tg x (iD X.K E (denI F it))
  | .seq e, cn, x, tg, E, X, h, c => by
    unfold chkI at c
    exact i_seq (soundE e cn x E X h c)
  | .rng1 j a, cn, x, tg, E, X, h, c => by
    unfold chkI at c
    split at c
    · simp only [Bool.and_eq_true, decide_eq_true_eq] at c
      obtain ⟨⟨c1, c2⟩, c3⟩ := c
      subst c1
      obtain ⟨g1, hm⟩ := h.blt c2
      have hst := es_star c3
      rw [List.all_cons, Bool.and_eq_true] at hst
      exact i_rng1 g1 hm (soundEs a cn _ E X h c3) (star_cons hst.1)
    · cases c
  | .rng2 j a, cn, x, tg, E, X, h, c => by
    unfold chkI at c
    split at c
    · simp only [Bool.and_eq_true, decide_eq_true_eq] at c
      obtain ⟨⟨c1, c2⟩, c3⟩ := c
      subst c1
      obtain ⟨g1, hm⟩ := h.blt c2
      have hst := es_star c3
      rw [List.all_cons, List.all_cons, Bool.and_eq_true, Bool.and_eq_true] at hst
      have q2 : starEach [_] X.env = [(false, eval _ X.env)] := star_cons hst.2.1
      exact i_rng2 g1 hm (soundEs a cn _ E X h c3) ((star_cons hst.1).trans (by rw [q2])) q2
    · cases c
  | .zip j es, cn, x, tg, E, X, h, c => by
    unfold chkI at c
    split at c
    · simp only [Bool.and_eq_true, decide_eq_true_eq] at c
      obtain ⟨⟨c1, c2⟩, c3⟩ := c
      subst c1
      obtain ⟨g1, hm⟩ := h.blt c2
      have hst := es_star c3
      rw [List.all_cons, Bool.and_eq_true] at hst
      exact i_zip g1 hm (soundEs es cn _ E X h c3) (star_cons hst.1) (star_all hst.2)
    · cases c
  | .zipS j e, cn, x, tg, E, X, h, c => by
    unfold chkI at c
    split at c
    · simp only [Bool.and_eq_true, decide_eq_true_eq] at c
      obtain ⟨⟨c1, c2⟩, c3⟩ := c
      subst c1
      obtain ⟨g1, hm⟩ := h.blt c2
      exact i_zipS g1 hm (soundE e cn _ E X h c3)
    · cases c
  | .enm j a, cn, x, tg, E, X, h, c => by
    unfold chkI at c
    split at c
    · simp only [Bool.and_eq_true, decide_eq_true_eq] at c
      obtain ⟨⟨c1, c2⟩, c3⟩ := c
      subst c1
      obtain ⟨g1, hm⟩ := h.blt c2
      have hst := es_star c3
      rw [List.all_cons, Bool.and_eq_true] at hst
      exact i_enum g1 hm (soundEs a cn _ E X h c3) (star_cons hst.1)
    · cases c
end
end PB

set_option maxHeartbeats 4000000
namespace PB
open PySem PySem.Spec PyProof.Rows L2

mutual
def chkS (gt : List (Str × Gk)) : St → Cn → Stmt → Bool
  | .pass, _, x => (match x with
    | .Pass _ => true
    | _ => false)
  | .doc, _, x => (match x with
    | .Expr (.Constant (.str _) _ _) _ => true
    | _ => false)
  | .ret e, cn, x => (match x with
    | .Return (some y) _ => chkE gt e cn y
    | _ => false)
  | .retN, _, x => (match x with
    | .Return none _ => true
    | _ => false)
  | .expr e, cn, x => (match x with
    | .Expr y _ => notComp y && chkE gt e cn y
    | _ => false)
  | .set t e, cn, x => (match x with
    | .Assign [tg] v _ => chkE gt e cn v && tgB cn t tg && (match t, tg, v with
      | .nm i, .Name y py, .ListComp _ _ scope p => !(swB cn.sc y py p scope) || decide (cn.N[i]? = some y)
      | .nm _, .Name _ _, v => notComp v
      | .tp _, .Tuple _ _ _, v => notTup v
      | _, _, _ => false)
    | _ => false)
  | .par i j es, cn, x => (match x with
    | .Assign [.Tuple [.Name y py, .Name z pz] _ _] (.Tuple [a, b] _ _) _ => decide (cn.N[i]? = some y) && decide (cn.N[j]? = some z) && decide (i ≠ j) && parB cn.sc y z py pz a b && chkEs gt es cn [a, b]
    | _ => false)
  | .setI o i e, cn, x => (match x with
    | .Assign [.Subscript l r _] v _ => notSl r && chkE gt o cn l && chkE gt i cn r && chkE gt e cn v
    | _ => false)
  | .ife c a b, cn, x => (match x with
    | .If t l r _ => chkE gt c cn t && tOk c t && chkSs gt a cn l && chkSs gt b cn r
    | _ => false)
  | .for t it b, cn, x => (match x with
    | .For tg iter body [] _ => tgB cn t tg && notSet iter && chkI gt it cn iter tg && chkSs gt b cn body
    | _ => false)
  | .whl _ c b, cn, x => (match x with
    | .While t body [] _ => chkE gt c cn t && tOk c t && chkSs gt b cn body
    | _ => false)
  | .brk, _, x => (match x with
    | .Break _ => true
    | _ => false)
  | .cont, _, x => (match x with
    | .Continue _ => true
    | _ => false)
  | .bad, _, _ => true
def chkSs (gt : List (Str × Gk)) : Ss → Cn → List Stmt → Bool
  | .nil, _, x => x.isEmpty
  | .cons s ss, cn, x => (match x with
    | y :: ys => chkS gt s cn y && chkSs gt ss cn ys
    | [] => false)
  | .frz _ ss, cn, x => chkSs gt ss cn x
end
section
variable {gt : List (Str × Gk)} {F : Fns} {k : Nat} {E : XW} {cn : Cn} {X : Cx}
theorem frz_tD {K : PySem.W.Frag} {p : Me} {σ : L2.St} {H : Hp} {Q : VK} (h : tD K E (pFrz p) σ H Q) : tD K E p σ H Q := by
  obtain ⟨ρ, S, mu, hs, en, s, h⟩ := h
  refine ⟨ρ, S, mu, hs, en, s, Post.mono (Post.bind h) fun x S1 mu1 H1 g1 s1 z v hv => ?_⟩
  obtain ⟨_, _, z⟩ := z
  cases ef : frzX x S1 with
  | bad => rw [ef] at z; exact z.elim
  | exc c as S2 => rw [ef] at z; cases x <;> simp only [frzX] at ef <;> (repeat' split at ef) <;> cases ef
  | ok y S2 =>
    rw [ef] at z
    obtain ⟨g2, s2, d2⟩ := frz_den s1 hv ef
    exact z mu1 H1 g2 s2 v d2
/-- name = [comprehension], the name stored by the comprehension's own end -/
theorem soundLc {i : Nat} {y : Str} {py spos pos : Pos} {elt : Expr} {gs : List Comprehension} {scope : Scope} (h : COk gt F k E cn X) (hi : cn.N[i]? = some y) (hsw : swB cn.sc y py pos scope = true) : ∀ (e : PB.E), chkE gt e cn (.ListComp elt gs scope pos) = true →
    ∀ q : Me, (∀ σ H Q, tD X.K E q σ H Q → tD X.K E (denE F e) σ H Q) → PS X (.Assign [.Name y py] (.ListComp elt gs scope pos) spos) (tDS X.K E (pAsg (.nm i) q))
  | .lc r vs t it cc e, c, q, hq => by
    unfold chkE at c
    split at c
    · rename_i elt2 tg iter ifs scope2 pos2 hx
      cases hx
      simp only [Bool.and_eq_true] at c
      obtain ⟨⟨⟨⟨⟨⟨c1, c2⟩, c3⟩, c4⟩, c5⟩, c6⟩, c7⟩ := c
      rw [← h.N, ← h.sc] at c1
      have ok := blkOk_by c1
      have hk := ok.kind
      have sub : ∀ i ∈ t.ix, i ∈ vs := fun i hi => by simpa using List.all_eq_true.mp c2 i hi
      have hl : X.env.scope.names.lookup y = some .local := by
        simp only [swB, Bool.and_eq_true, decide_eq_true_eq] at hsw
        rw [h.sc]; exact hsw.1.1
      have hs1 : swapsWith (.ListComp elt [⟨tg, iter, ifs, 0⟩] scope pos) (some (.Name y py)) spos.line X.env = pure true := by
        rw [swaps_lc (by rw [h.sc]; exact h.kind), h.sc, hsw]
      have key := ps_setLc (pos := pos) (spos := spos) (py := py) (g := gOf X.K t) (tt := tDt X.K E.no (denC F cc)) (te := tD X.K E.no (denE F e)) h.calm h.nod (by rw [h.N]; exact hi) hl hs1 (soundI it cn _ _ E X h c5) ok (fun s H C cl fp => tg_ok' (h.blk hk s H C cl fp) c4) (fun s H C cl fp => soundC cc _ _ E.no _ (h.blk hk s H C cl fp) c6) (fun s H C cl fp => soundE e _ _ E.no _ (h.blk hk s H C cl fp) c7) (fold_no c3)
      rw [ownOf_snd] at key
      refine PS.imp key fun D σ H hh => ?_
      have h2 := hq _ _ _ (asg_red gok_nm hh)
      unfold denE at h2
      cases r with
      | true => exact lcR_red (gok_of t) sub h2
      | false => exact lc_red (gok_of t) sub h2
    · cases c
  | .lc2 r vs t it cc t1 it1 cc1 e, c, q, hq => by
    unfold chkE at c
    split at c
    · rename_i elt2 tg iter ifs tg1 iter1 ifs1 scope2 pos2 hx
      cases hx
      simp only [Bool.and_eq_true] at c
      obtain ⟨⟨⟨⟨⟨⟨⟨⟨⟨⟨⟨c1, c2⟩, c2'⟩, c3⟩, c3'⟩, c4⟩, c4'⟩, c5⟩, c6⟩, c5'⟩, c6'⟩, c7⟩ := c
      rw [← h.N, ← h.sc] at c1
      have ok := blkOk_by c1
      have hk := ok.kind
      have sub : ∀ i ∈ t.ix, i ∈ vs := fun i hi => by simpa using List.all_eq_true.mp c2 i hi
      have sub1 : ∀ i ∈ t1.ix, i ∈ vs := fun i hi => by simpa using List.all_eq_true.mp c2' i hi
      have hl : X.env.scope.names.lookup y = some .local := by
        simp only [swB, Bool.and_eq_true, decide_eq_true_eq] at hsw
        rw [h.sc]; exact hsw.1.1
      have hs1 : swapsWith (.ListComp elt [⟨tg, iter, ifs, 0⟩, ⟨tg1, iter1, ifs1, 0⟩] scope pos) (some (.Name y py)) spos.line X.env = pure true := by
        rw [swaps_lc (by rw [h.sc]; exact h.kind), h.sc, hsw]
      have key := ps_setLc2 (pos := pos) (spos := spos) (py := py) (g := gOf X.K t) (g1 := gOf X.K t1) (tt := tDt X.K E.no (denC F cc)) (tt1 := tDt X.K E.no (denC F cc1)) (wi1 := iD X.K E.no (denI F it1)) (te := tD X.K E.no (denE F e)) (vs1 := t1.ix) h.calm h.nod (by rw [h.N]; exact hi) hl hs1 (soundI it cn _ _ E X h c5) ok
        (fun i hi => by rw [ownOf_snd]; exact sub1 i hi) (fun s H C cl fp => tg_ok' (h.blk hk s H C cl fp) c4) (fun s H C cl fp => soundC cc _ _ E.no _ (h.blk hk s H C cl fp) c6)
        (fun s H C cl fp => soundI it1 _ _ _ E.no _ (h.blk hk s H C cl fp) c5') (fun s H C cl fp => tg_ok' (h.blk hk s H C cl fp) c4') (fun s H C cl fp => soundC cc1 _ _ E.no _ (h.blk hk s H C cl fp) c6') (fun s H C cl fp => soundE e _ _ E.no _ (h.blk hk s H C cl fp) c7) (fold_no c3) (fun _ => fold_no c3')
      rw [ownOf_snd] at key
      refine PS.imp key fun D σ H hh => ?_
      have h2 := hq _ _ _ (asg_red gok_nm hh)
      unfold denE at h2
      cases r with
      | true => exact lc2R_red (gok_of t) (gok_of t1) sub h2
      | false => exact lc2_red (gok_of t) (gok_of t1) sub h2
    · cases c
  | .frz e, c, q, hq => by
    unfold chkE at c
    exact soundLc h hi hsw e c q fun σ H Q hh => frz_tD (by have := hq σ H Q hh; unfold denE at this; exact this)
  | .var _, c, q, hq => by unfold chkE at c; cases c
  | .cst _, c, q, hq => by unfold chkE at c; cases c
  | .gl _ _, c, q, hq => by unfold chkE at c; cases c
  | .bin _ _ _, c, q, hq => by unfold chkE at c; cases c
  | .neg _, c, q, hq => by unfold chkE at c; cases c
  | .not _, c, q, hq => by unfold chkE at c; cases c
  | .cmp _ _ _, c, q, hq => by unfold chkE at c; cases c
  | .chn _ _ _ _ _, c, q, hq => by unfold chkE at c; cases c
  | .isN _, c, q, hq => by unfold chkE at c; cases c
  | .ntN _, c, q, hq => by unfold chkE at c; cases c
  | .and _ _, c, q, hq => by unfold chkE at c; cases c
  | .or _ _, c, q, hq => by unfold chkE at c; cases c
  | .ife _ _ _, c, q, hq => by unfold chkE at c; cases c
  | .tup _, c, q, hq => by unfold chkE at c; cases c
  | .lst _, c, q, hq => by unfold chkE at c; cases c
  | .lstR _, c, q, hq => by unfold chkE at c; cases c
  | .ix _ _, c, q, hq => by unfold chkE at c; cases c
  | .sl _ _ _, c, q, hq => by unfold chkE at c; cases c
  | .call _ _ _, c, q, hq => by unfold chkE at c; cases c
  | .bi _ _ _, c, q, hq => by unfold chkE at c; cases c
  | .isi _ _ _ _, c, q, hq => by unfold chkE at c; cases c
  | .gen _ _ _ _ _ _ _, c, q, hq => by unfold chkE at c; cases c
  | .dct _ _, c, q, hq => by unfold chkE at c; cases c
  | .app _ _, c, q, hq => by unfold chkE at c; cases c
  | .rem _ _, c, q, hq => by unfold chkE at c; cases c
theorem nm_stores {e : Expr} {y : Str} {py : Pos} {env : Env} : swappedStores [.Name y py] e env = pure none := by
  cases e <;> rfl
theorem nm_sole {e : Expr} {y : Str} {py : Pos} {l : Nat} {env : Env} : swapsWithSole [.Name y py] e l env = swapsWith e (some (.Name y py)) l env := by
  cases e <;> rfl
end

mutual
theorem soundS {gt : List (Str × Gk)} {F : Fns} {k : Nat} : ∀ (s : St) (cn : Cn) (x : Stmt) (E : XW) (X : Cx), COk gt F k E cn X → chkS gt s cn x = true → PS X x (tDS X.K E (denS F s))
  | .pass, cn, x, E, X, h, c => by
    unfold chkS at c
    split at c
    · exact s_pass
    · cases c
  | .doc, cn, x, E, X, h, c => by
    unfold chkS at c
    split at c
    · exact s_doc
    · cases c
  | .ret e, cn, x, E, X, h, c => by
    unfold chkS at c
    split at c
    · exact s_ret (soundE e cn _ E X h c)
    · cases c
  | .retN, cn, x, E, X, h, c => by
    unfold chkS at c
    split at c
    · exact s_retN
    · cases c
  | .expr e, cn, x, E, X, h, c => by
    unfold chkS at c
    split at c
    · rw [Bool.and_eq_true] at c
      exact s_expr (soundE e cn _ E X h c.2) (swaps_no c.1)
    · cases c
  | .set t e, cn, x, E, X, h, c => by
    unfold chkS at c
    split at c
    · rename_i tg v pos
      simp only [Bool.and_eq_true] at c
      obtain ⟨⟨c1, c2⟩, c3⟩ := c
      split at c3
      · rename_i i y py elt gs scope p
        have he := soundE e cn _ E X h c1
        have hg := tg_ok' h c2
        cases sw : swB cn.sc y py p scope with
        | true =>
          rw [sw] at c3
          exact soundLc h (of_decide_eq_true c3) sw e c1 _ fun _ _ _ z => z
        | false =>
          exact s_asg he hg (gok_of _) (by rw [nm_sole, swaps_lc (by rw [h.sc]; exact h.kind), h.sc, sw]) nm_stores rfl
      · exact s_asg (soundE e cn _ E X h c1) (tg_ok' h c2) (gok_of _) (by rw [nm_sole]; exact swaps_no c3) nm_stores rfl
      · exact s_asg (soundE e cn _ E X h c1) (tg_ok' h c2) (gok_of _) swaps_tup (stores_no c3) rfl
      · cases c3
    · cases c
  | .par i j es, cn, x, E, X, h, c => by
    unfold chkS at c
    split at c
    · simp only [Bool.and_eq_true, decide_eq_true_eq] at c
      obtain ⟨⟨⟨⟨c1, c2⟩, c3⟩, c4⟩, c5⟩ := c
      have c4' := c4
      simp only [parB, Bool.and_eq_true, decide_eq_true_eq] at c4'
      rw [← h.sc] at c4
      exact s_par h.calm h.nod (by rw [h.N]; exact c1) (by rw [h.N]; exact c2) c3 (by rw [h.sc]; exact c4'.1.1.1.1.1.1.1) (by rw [h.sc]; exact c4'.1.1.1.1.1.1.2) (soundEs es cn _ E X h c5) (stores_par (by rw [h.sc]; exact h.kind) c4) swaps_tup
    · cases c
  | .setI o i e, cn, x, E, X, h, c => by
    unfold chkS at c
    split at c
    · simp only [Bool.and_eq_true] at c
      obtain ⟨⟨⟨c1, c2⟩, c3⟩, c4⟩ := c
      exact s_setI h.hu (soundE o cn _ E X h c2) (soundE i cn _ E X h c3) (soundE e cn _ E X h c4) (assign_sub c1) swaps_sub stores_sub rfl
    · cases c
  | .ife c' a b, cn, x, E, X, h, c => by
    unfold chkS at c
    split at c
    · simp only [Bool.and_eq_true] at c
      exact s_if (soundT c' cn _ E X h c.1.1.1 c.1.1.2) (soundSs a cn _ E X h c.1.2) (soundSs b cn _ E X h c.2)
    · cases c
  | .for t it b, cn, x, E, X, h, c => by
    unfold chkS at c
    split at c
    · simp only [Bool.and_eq_true] at c
      exact s_for (by rw [h.xe]; exact PySem.PassesOwn.never) h.calm (soundI it cn _ _ E X h c.1.2) (tg_ok' h c.1.1.1) (gok_of t) (soundSs b cn _ E X h c.2) (fold_no c.1.1.2)
    · cases c
  | .whl n c' b, cn, x, E, X, h, c => by
    unfold chkS at c
    split at c
    · simp only [Bool.and_eq_true] at c
      exact s_while n (by rw [h.xe]; exact PySem.PassesOwn.never) (soundT c' cn _ E X h c.1.1 c.1.2) (soundSs b cn _ E X h c.2)
    · cases c
  | .brk, cn, x, E, X, h, c => by
    unfold chkS at c
    split at c
    · exact s_bk
    · cases c
  | .cont, cn, x, E, X, h, c => by
    unfold chkS at c
    split at c
    · exact s_ct
    · cases c
  | .bad, cn, x, E, X, h, c => s_bad
theorem soundSs {gt : List (Str × Gk)} {F : Fns} {k : Nat} : ∀ (s : Ss) (cn : Cn) (x : List Stmt) (E : XW) (X : Cx), COk gt F k E cn X → chkSs gt s cn x = true → PSs X x (tDS X.K E (denSs F s))
  | .nil, cn, x, E, X, h, c => by
    unfold chkSs at c
    cases x with
    | nil => exact s_nil
    | cons _ _ => cases c
  | .cons s ss, cn, x, E, X, h, c => by
    unfold chkSs at c
    cases x with
    | nil => cases c
    | cons y ys =>
      simp only [Bool.and_eq_true] at c
      exact s_cons (soundS s cn y E X h c.1) (soundSs ss cn ys E X h c.2)
  | .frz i ss, cn, x, E, X, h, c => by
    unfold chkSs at c
    exact s_frz (soundSs ss cn x E X h c)
end
end PB

namespace PB
open PySem PySem.Spec PyProof.Rows L2

/-- what is seen of a def's row: names, scope, body -/
structure DRow where
  x : Str
  params : Arguments
  body : List Stmt
  scope : Scope
  N : List Str
  ps : List Str
  tb : Bool
structure DefOk (gt : List (Str × Gk)) (ds : List Def') (Ts : List Addr) (K : PySem.W.Frag) (mg : Str → Option Value) (base : Heap) (i : Nat) (f : Addr) (fd : FuncData) (ps : List Str) : Prop where
  ex : ∃ (d : Def') (x qual : Str) (params : Arguments) (body : List Stmt) (scope : Scope) (N : List Str) (tb : Bool), ds[i]? = some d ∧ FunD K x qual params body scope [] [] f fd ∧ FnScope N ps scope ∧ N.length = d.nn ∧ ps.length = d.np ∧
    chkSs gt d.body ⟨N, scope, fun _ => true, 7, tb⟩ body = true ∧ (tb = true → ∃ c P, fd.code = .ref c ∧ GxR.TabB base mg c P ∧ P ∈ Ts)
structure Glb (gt : List (Str × Gk)) (ds : List Def') (Ts : List Addr) (K : PySem.W.Frag) (mg : Str → Option Value) (base : Heap) : Prop where
  ok : ∀ (j : Nat) (y : Str) (g : Gk), gt[j]? = some (y, g) → match g with
    | .blt => mg y = none
    | .cst d => ∃ v u, mg y = some u ∧ RelV v u ∧ ∀ lv H, DenD K lv H d v
    | .fn i n => ∃ f fd ps, mg y = some (.ref f) ∧ PySem.W.keepIn K (.ref f) = true ∧ Binds K fd ps [] ∧ ps.length = n ∧ DefOk gt ds Ts K mg base i f fd ps
theorem env0_ok {K : PySem.W.Frag} {lv : Addr → Prop} {mu : List Addr} {H : Hp} {d : Def'} {N : List Str} {xs : List Xv} {vs : List V} (h : DenXs K lv mu H xs vs) (hn : N.length = d.nn) : EnvOk K lv mu H (env0 d xs) (L2.start N vs) := by
  have hl := Paired.length h
  unfold env0 L2.start
  refine ⟨by simp [hl, hn], fun i x e => ?_⟩
  rw [List.getElem?_append] at e
  split at e
  · rename_i hi
    rw [List.getElem?_map] at e
    cases ex : xs[i]? with
    | none => rw [ex] at e; cases e
    | some y =>
      rw [ex] at e
      cases e
      obtain ⟨v, ev, hv⟩ := h.get ex
      refine ⟨v, ?_, hv⟩
      rw [List.getElem?_append_left (by rw [List.length_map] at hi ⊢; omega), List.getElem?_map, ev]
      rfl
  · rename_i hi
    have := List.mem_replicate.mp (List.mem_of_getElem? e)
    cases this.2
theorem bodyK {tr : Bool} {K : PySem.W.Frag} {Ts : List Addr} {S : Sto} {mu hs : List Addr} {H : Hp} {Q : VK} (s : StoOk K Ts S mu hs H) {r : R Fl}
    (h : Post K ⟨fun _ _ _ _ _ => False, Ts⟩ S mu hs H (fun z S' mu' H' => ∀ v, DenX K (live S' mu' hs) mu' H' z v → Q v H') (fnRes tr S.length r)) : Post K ⟨fun _ _ _ _ _ => False, Ts⟩ S mu hs H (endK K hs { nx := fun _ H' => Q .non H', rt := Q }) r := by
  cases r with
  | bad => exact h
  | exc c as S1 => exact h
  | ok fl S1 =>
    intro mu1 H1 g1 s1
    cases fl with
    | nx ρ =>
      intro σ en
      cases tr with
      | true => exact trunc_red (E := ⟨fun _ _ _ _ _ => False, Ts⟩) (x := .d .none) (v := .non) g1 s s1 (by unfold DenX DenD; rfl) h
      | false => exact h mu1 H1 g1 s1 _ (by unfold DenX DenD; rfl)
    | rt x =>
      intro v hv
      cases tr with
      | true => exact trunc_red (E := ⟨fun _ _ _ _ _ => False, Ts⟩) g1 s s1 hv h
      | false => exact h mu1 H1 g1 s1 _ hv
    | bk ρ => exact h.elim
    | ct ρ => exact h.elim
theorem fnG_zero {P : Program} {w : World} {K : PySem.W.Frag} {mg : Str → Option Value} {base : Heap} {f : Addr} {fd : FuncData} {ps : List Str} {Ts : List Addr} {ds : List Def'} {i n : Nat} (hn : ps.length = n) : FnG P w K mg base 0 f fd ps (spD K Ts (callN ds 0 i) n) where
  len := fun vs H Q h => by rw [hn]; exact h.1
  run := fun A outer s H args us vs Q hr he hb hv h => by
    obtain ⟨_, xs, S, mu, hs, _, _, z⟩ := h
    exact z.elim
theorem fnG_all {P : Program} {w : World} {gt : List (Str × Gk)} {ds : List Def'} {Ts : List Addr} {K : PySem.W.Frag} {mg : Str → Option Value} {base : Heap} (G : Glb gt ds Ts K mg base) : ∀ (k i : Nat) (f : Addr) (fd : FuncData) (ps : List Str) (n : Nat), ps.length = n → DefOk gt ds Ts K mg base i f fd ps →
    FnG P w K mg base k f fd ps (spD K Ts (callN ds k i) n)
  | 0, i, f, fd, ps, n, hn, D => fnG_zero hn
  | k + 1, i, f, fd, ps, n, hn, D => by
    obtain ⟨d, x, qual, params, body, scope, N, tb, hd, F, Sc, hN, hp, hc, ht⟩ := D.ex
    obtain ⟨oc, od, dV, kV, doc, pm, an, cdv, ct, osl, rfl, lk, hcd, _, _⟩ := F.ex
    refine fnG_of lk hcd Sc (fun vs H Q h => by rw [hn]; exact h.1) fun A outer s H vs Q hr hsp => ?_
    obtain ⟨_, xs, S, mu, hs, so, hv, z⟩ := hsp
    refine ⟨tDS K ⟨fun _ _ _ _ _ => False, Ts⟩ (denSs (callN ds k) d.body), PSs.nox ?_, ?_⟩
    · have hr1 := hr.dp
      have hr2 := hr.un
      refine soundSs (k := k) d.body ⟨N, scope, fun _ => true, 7, tb⟩ body ⟨fun _ _ _ _ _ => False, Ts⟩ _ ?_ hc
      refine ⟨rfl, rfl, Sc.nd, rfl, rfl, fun _ _ => rfl, Sc.kind, hr.hd, ?_, ?_, hr.gd, ?_, fun z => by
        obtain ⟨c, P', h1, h2, h3⟩ := ht z
        exact ⟨c, P', h2, h1, h3⟩⟩
      · show A.depth + 1 + 8 * k + 20 + 7 < recursionLimit
        omega
      · show A.units + 3 + 64 * k + 500 + 8 * 7 < cLine
        omega
      · intro j y g e
        have q := G.ok j y g e
        cases g with
        | blt => exact q
        | cst d => exact q
        | fn i' n' =>
          obtain ⟨f', fd', ps', h1, h2, h3, h4, h5⟩ := q
          exact ⟨f', fd', ps', h1, h2, h3, fnG_all G k i' f' fd' ps' n' h4 h5⟩
    · refine ⟨env0 d xs, S, mu, hs, env0_ok hv hN, so, bodyK (tr := d.tr) so ?_⟩
      simp only [callN, hd, runDef] at z
      split at z
      · exact z
      · exact z.elim
end PB

namespace PB
open PySem PySem.Spec PyProof.Rows L2

section
variable {K : PySem.W.Frag} {s : Shared} {H : Hp} {a : Addr} {Tb : List Addr} {mg mb : Str → Option Value}
/-- H speaks of sequences and of empty tables alone, and of nothing that K holds -/
structure Few (K : PySem.W.Frag) (s : Shared) (H : Hp) : Prop where
  shape : ∀ b u, H b = some u → ∃ o, s.heap.get? b = some o ∧ ((∃ vs n, o.data = .seq vs n) ∨ o.data = .fields #[])
  notK : ∀ b u, H b = some u → K.lookup b = none
theorem Few.seen (q : Few K s H) {b : Addr} {o : Obj} (e : s.heap.get? b = some o) (h1 : ∀ vs n, o.data ≠ .seq vs n) (h2 : o.data ≠ .fields #[]) : (hidT s.heap H).get? b = some o := hidT_get e (by
  cases eh : H b with
  | none => rfl
  | some u =>
    obtain ⟨o', e', z⟩ := q.shape b u eh
    obtain rfl : o = o' := Option.some.inj (e.symm.trans e')
    rcases z with ⟨vs, n, z⟩ | z
    · exact absurd z (h1 vs n)
    · exact absurd z h2)
theorem Few.ns (q : Few K s H) {b : Addr} {m : Str → Option Value} (h : s.heap.Ns b m) : (hidT s.heap H).Ns b m := by
  obtain ⟨o, es, ep, e, dd, r⟩ := h
  exact ⟨o, es, ep, q.seen e (by rw [dd]; exact fun _ _ z => nomatch z) (by rw [dd]; exact fun z => nomatch z), dd, r⟩
theorem Few.kin (q : Few K s H) (X : K.In s.heap) : K.In (hidT s.heap H) := fun b o e => hidT_get (X b o e) (by
  cases eh : H b with
  | none => rfl
  | some u => exact absurd ((q.notK b u eh).symm.trans e) (fun z => nomatch z))
theorem Few.tab (q : Few K s H) {c T : Addr} (ht : s.heap.get? T = some { cls := .none, data := .fields #[] }) (hc : PySem.W.CodeHd s.heap c T) (hn : s.heap.Ns mainGlobals mg)
    (hb : ∃ (bm : Addr) (ob : Obj), mg "__builtins__" = some (.ref bm) ∧ bm ≠ builtinsNs ∧ s.heap.get? bm = some ob ∧ ob.cls = .type "module" ∧ ob.dict = some builtinsNs ∧ ob.data = .plain) : GxR.TabB (hidT s.heap H) mg c T := by
  obtain ⟨og, es, ep, eg, dg, _⟩ := hn
  refine ⟨?_, ?_, ?_⟩
  · obtain ⟨o, us, file, tf, flags, tg, inF, text, tt, e1, r1, r2, r3, rest⟩ := hc
    refine ⟨o, us, file, tf, flags, tg, inF, text, tt, q.seen e1 (by rw [r2]; exact fun _ _ z => nomatch z) (fun z => ?_), r1, r2, r3, rest⟩
    have e2 := Data.fields.inj (r2.symm.trans z)
    rw [e2] at r3
    simp at r3
  · obtain ⟨bm, ob, b1, b2, b3, b4, b5, b6⟩ := hb
    refine ⟨bm, ob, b1, b2, fun z => ?_, fun z => ?_, q.seen b3 (by rw [b6]; exact fun _ _ z => nomatch z) (by rw [b6]; exact fun z => nomatch z), b4, b5, b6⟩
    · subst z
      have e2 := Option.some.inj (b3.symm.trans eg)
      rw [e2, dg] at b6
      exact nomatch b6
    · subst z
      have e2 := Option.some.inj (b3.symm.trans ht)
      rw [e2] at b6
      exact nomatch b6
  · intro z
    subst z
    have e2 := Option.some.inj (ht.symm.trans eg)
    rw [← e2] at dg
    exact nomatch dg
/-- the heap as the call finds it -/
def H00 (K : PySem.W.Frag) (Tb : List Addr) (a : Addr) (ob : Obj) (ns : List Int) : Hp := fun b =>
  if b ∈ Tb then some (.tbl #[]) else if b = a ∧ K.lookup a = none then some (.frz ob (.lst (ns.map V.int))) else none
end
theorem law_end {P : Program} {w : World} {K : PySem.W.Frag} {mg mb : Str → Option Value} {fa a : Addr} {cs : List (Addr × Addr)} {s : Shared} {vs : List Value} {ns : List Int} (X : K.In s.heap) (hn : s.heap.Ns mainGlobals mg) (hb : s.heap.Ns builtinsNs mb)
    (hbb : ∀ x : Str, x ≠ "__name__" → mb x = bootBuiltins x) (hlim : s.heap.NoLimit) (hg : s.gens = #[]) (ht : ∀ p ∈ cs, s.heap.get? p.2 = some { cls := .none, data := .fields #[] }) (nt : ∀ p ∈ cs, K.lookup p.2 = none)
    (hc : ∀ p ∈ cs, PySem.W.CodeHd s.heap p.1 p.2) (hbm : ∃ (bm : Addr) (ob : Obj), mg "__builtins__" = some (.ref bm) ∧ bm ≠ builtinsNs ∧ s.heap.get? bm = some ob ∧ ob.cls = .type "module" ∧ ob.dict = some builtinsNs ∧ ob.data = .plain)
    (ha : s.heap.get? a = some { cls := .type "list", data := .seq vs.toArray }) (hi : IntsAre vs ns) (hl : ns.length ≤ sizeLine)
    (F : ∀ (base : Heap) (H : Hp), K.In base → base.Ns mainGlobals mg → (∀ p ∈ cs, GxR.TabB base mg p.1 p.2) → (∀ p ∈ cs, H p.2 = some (.tbl #[])) → SqL K H a (ns.map V.int) → Env0 P w K mg base callerA [] s H →
      codeAny (model P w) callerA (.call (.ref fa) ⟨[.ref a], []⟩) (CR CX0 [] P w H s (fun v _ => v = .bl true) fun _ _ _ => False) s) :
    codeAny (model P w) callerA (.call (.ref fa) ⟨[.ref a], []⟩) (fun r s' => r = .ok (.ret (.bool true)) ∧ OldK s.heap s'.heap ∧ s'.os = s.os ∧ AllBare s'.gens) s := by
  have rv := vals_ints hi
  have lv := hi.length
  have inT : ∀ b, b ∈ cs.map (·.2) → s.heap.get? b = some { cls := .none, data := .fields #[] } ∧ K.lookup b = none := fun b hb => by
    obtain ⟨p, hp, rfl⟩ := List.mem_map.mp hb
    exact ⟨ht p hp, nt p hp⟩
  have aT : a ∉ cs.map (·.2) := fun z => by
    have e2 := Option.some.inj (ha.symm.trans (inT a z).1)
    exact nomatch (congrArg Obj.data e2)
  obtain ⟨H, eH⟩ : ∃ H, H = H00 K (cs.map (·.2)) a { cls := .type "list", data := .seq vs.toArray } ns := ⟨_, rfl⟩
  have look : ∀ b u, H b = some u → (b ∈ cs.map (·.2) ∧ u = .tbl #[]) ∨ (b = a ∧ K.lookup a = none ∧ u = .frz { cls := .type "list", data := .seq vs.toArray } (.lst (ns.map V.int))) := fun b u e => by
    rw [eH] at e
    unfold H00 at e
    split at e
    · exact .inl ⟨by assumption, (Option.some.inj e).symm⟩
    · split at e
      · rename_i z
        exact .inr ⟨z.1, z.2, (Option.some.inj e).symm⟩
      · cases e
  have few : Few K s H := ⟨fun b u e => by
      rcases look b u e with ⟨z, _⟩ | ⟨z, _, _⟩
      · exact ⟨_, (inT b z).1, .inr rfl⟩
      · rw [z]; exact ⟨_, ha, .inl ⟨_, _, rfl⟩⟩, fun b u e => by
      rcases look b u e with ⟨z, _⟩ | ⟨z, k, _⟩
      · exact (inT b z).2
      · rw [z]; exact k⟩
  have hT : ∀ p ∈ cs, H p.2 = some (.tbl #[]) := fun p hp => by
    rw [eH]; exact if_pos (List.mem_map.mpr ⟨p, hp, rfl⟩)
  have hS : SqL K H a (ns.map V.int) := by
    cases k : K.lookup a with
    | some o =>
      obtain rfl : o = _ := Option.some.inj ((X a o k).symm.trans ha)
      exact .inr ⟨_, vs.toArray, _, k, rfl, rfl, rfl, by rw [List.size_toArray, lv]; exact hl, by simpa using rv⟩
    | none => exact .inl (.inr ⟨_, by rw [eH]; exact (if_neg aT).trans (if_pos ⟨rfl, k⟩)⟩)
  have ok : HOk P w H s.heap := fun b u e => by
    rcases look b u e with ⟨z, rfl⟩ | ⟨rfl, _, rfl⟩
    · exact (inT b z).1
    · exact ⟨ha, by rw [List.length_map]; exact hl, vs, _, rv, ha⟩
  have e0 : Env0 P w K mg (hidT s.heap H) callerA [] s H := by
    refine ⟨rfl, ⟨few.kin X, few.ns hn, ⟨mb, few.ns hb, hbb⟩, ?_⟩, fun b o e => of_hidT e, Nat.le_of_eq (hidT_size _ _), trivial, fun b z => absurd z (List.not_mem_nil), ok, .of_eq hg⟩
    obtain ⟨mc, z1, z2⟩ := hlim
    exact ⟨mc, few.ns z1, z2⟩
  refine codeAny_mono (F _ H (few.kin X) (few.ns hn) (fun p hp => few.tab (ht p hp) (hc p hp) hn hbm) hT hS e0) fun r s' h => ?_
  cases r with
  | error e => exact h.elim
  | ok fl =>
    cases fl with
    | next => exact h.elim
    | brk => exact h.elim
    | cont => exact h.elim
    | ret u =>
      obtain ⟨v, H', os, bare, un, ok', r', rfl⟩ := h
      obtain rfl : u = Value.bool true := r'
      have grown : ∀ b, b ∈ cs.map (·.2) → ∃ more : Array Value, s'.heap.get? b = some { cls := .none, data := .fields more } := fun b z => by
        obtain ⟨p, hp, rfl⟩ := List.mem_map.mp z
        obtain ⟨more, e⟩ := un.tbls p.2 #[] (hT p hp)
        exact ⟨_, ok' p.2 _ e⟩
      have kept : ∀ b o, b ∉ cs.map (·.2) → s.heap.get? b = some o → s'.heap.get? b = some o := fun b o nb e => by
        cases eh : H b with
        | none => exact un.keep b o e eh List.not_mem_nil List.not_mem_nil
        | some u =>
          rcases look b u eh with ⟨z, _⟩ | ⟨rfl, _, rfl⟩
          · exact absurd z nb
          · obtain ⟨e1, _⟩ := ok' b _ (un.frzs b _ _ eh)
            exact e1.trans (ha.symm.trans e)
      refine ⟨rfl, ⟨fun b o e => ?_, fun b o e => ?_⟩, os, bare⟩
      · by_cases z : b ∈ cs.map (·.2)
        · obtain ⟨more, e3⟩ := grown b z
          obtain rfl := Option.some.inj (e.symm.trans (inT b z).1)
          obtain ⟨p, hp, rfl⟩ := List.mem_map.mp z
          exact .inr (.inl ⟨((hc p hp).tab (ht p hp)).isCodeTable, rfl, #[], more, rfl, e3.trans (by rw [Array.empty_append])⟩)
        · exact .inl (kept b o z e)
      · by_cases z : b ∈ cs.map (·.2)
        · obtain ⟨more, e3⟩ := grown b z
          exact ⟨_, e3⟩
        · exact ⟨o, kept b o z e⟩
end PB

namespace PB
open PySem PySem.Spec PyProof.Rows L2

def DRow.toD (r : DRow) : He.DefD := ⟨(r.x, none), r.x, r.x, r.params, r.body, r.scope, [], []⟩
def DRow.Bnd (r : DRow) : Prop := ∀ (kV doc pm : Value) (an : Option Addr) (cdv ct : Value) (us : List Value), us.length = r.ps.length → bindArgs (PySem.W.fnOf r.x r.x r.params r.body r.scope .none kV doc pm an cdv ct) ⟨us, []⟩ = pure (r.ps.zip us)
def AllB : List DRow → Prop
  | [] => True
  | r :: rs => r.Bnd ∧ AllB rs
theorem AllB.mem : ∀ {rs : List DRow}, AllB rs → ∀ r ∈ rs, r.Bnd
  | [], _, r, h => nomatch h
  | q :: rs, ⟨h1, h2⟩, r, h => by
    rcases List.mem_cons.mp h with e | e
    · rw [e]; exact h1
    · exact AllB.mem h2 r e
def dvOf : D → Option He.Dv
  | .none => some .non
  | .bool b => some (.bl b)
  | .int i => some (.int i)
  | .str x => some (.str x)
  | _ => none
def dvsOf : List D → Option (List He.Dv)
  | [] => some []
  | d :: ds => match dvOf d, dvsOf ds with
    | some v, some vs => some (v :: vs)
    | _, _ => none
theorem dv_den {K : PySem.W.Frag} {lv : Addr → Prop} {H : Hp} {d : D} {v : He.Dv} (h : dvOf d = some v) : DenD K lv H d (v.v K) := by
  cases d <;> simp only [dvOf] at h <;> cases h <;> (unfold DenD; rfl)
theorem dvs_den {K : PySem.W.Frag} {lv : Addr → Prop} {H : Hp} : ∀ {ds : List D} {vs : List He.Dv}, dvsOf ds = some vs → DenL K lv H ds (vs.map (He.Dv.v K))
  | [], vs, h => by cases h; unfold DenL; rfl
  | d :: ds, vs, h => by
    unfold dvsOf at h
    split at h
    · rename_i v ws e1 e2
      cases h
      unfold DenL
      exact ⟨_, _, rfl, dv_den e1, dvs_den e2⟩
    · cases h
def faOf : Str × Gk → List He.Fa
  | (y, .blt) => [.free y]
  | (y, .fn _ _) => [.glo y]
  | (y, .cst (.int i)) => [.int y i]
  | (y, .cst (.str z)) => [.str y z]
  | (y, .cst (.tuple _)) => [.glo y]
  | _ => []
def exOf (gt : List (Str × Gk)) (K : PySem.W.Frag) : Bool := gt.all fun p => match p.2 with
  | .cst (.tuple ds) => (match dvsOf ds with
    | some vs => He.tupB K p.1 vs
    | none => false)
  | _ => true
def gkB (rs : List DRow) (p : Str × Gk) : Bool := match p.2 with
  | .blt => true
  | .cst (.int _) => true
  | .cst (.str _) => true
  | .cst (.tuple ds) => decide (ds.length ≤ 1000)
  | .cst _ => false
  | .fn i n => (match rs[i]? with
    | some r => decide (r.x = p.1) && decide (r.ps.length = n)
    | none => false)
def scB (N ps : List Str) (sc : Scope) : Bool := decide (sc.kind = .function) && !sc.isCoroutine && !sc.isGenerator && decide N.Nodup && decide (N.take ps.length = ps) && (ps.all fun x => decide (sc.names.lookup x = some .local) || decide (sc.names.lookup x = some .cell)) && (sc.names.all fun y => decide (y.2 ≠ .free))
theorem scB_ok {N ps : List Str} {sc : Scope} (h : scB N ps sc = true) : FnScope N ps sc := by
  simp only [scB, Bool.and_eq_true, decide_eq_true_eq, Bool.not_eq_true', List.all_eq_true, Bool.or_eq_true] at h
  obtain ⟨⟨⟨⟨⟨⟨h1, h2⟩, h3⟩, h4⟩, h5⟩, h6⟩, h7⟩ := h
  exact ⟨h1, h2, h3, h4, h5, h6, h7⟩
def chkD (gt : List (Str × Gk)) (d : Def') (r : DRow) : Bool := scB r.N r.ps r.scope && decide (r.N.length = d.nn) && decide (r.ps.length = d.np) && chkSs gt d.body ⟨r.N, r.scope, fun _ => true, 7, r.tb⟩ r.body
def chkAll (gt : List (Str × Gk)) : List Def' → List DRow → Bool
  | [], [] => true
  | d :: ds, r :: rs => chkD gt d r && chkAll gt ds rs
  | _, _ => false
theorem chkAll_at {gt : List (Str × Gk)} : ∀ {ds : List Def'} {rs : List DRow} {i : Nat} {r : DRow}, chkAll gt ds rs = true → rs[i]? = some r → ∃ d, ds[i]? = some d ∧ chkD gt d r = true
  | [], [], i, r, _, e => by simp at e
  | d :: ds, q :: rs, 0, r, h, e => by
    unfold chkAll at h
    rw [Bool.and_eq_true] at h
    cases e
    exact ⟨d, rfl, h.1⟩
  | d :: ds, q :: rs, i + 1, r, h, e => by
    unfold chkAll at h
    rw [Bool.and_eq_true] at h
    exact chkAll_at (ds := ds) h.2 (show rs[i]? = some r from e)
  | [], _ :: _, _, _, h, _ => by cases h
  | _ :: _, [], _, _, h, _ => by cases h
def tfOf (rs : List DRow) : List He.Defn := (rs.filter (·.tb)).map fun r => (r.x, none)
def TsOf (K : PySem.W.Frag) (rs : List DRow) : List Addr := (tfOf rs).map fun p => (He.cT K p).2
section
variable {gt : List (Str × Gk)} {ds : List Def'} {rs : List DRow} {w : World} {h base : Heap} {K : PySem.W.Frag} {mg : Str → Option Value}
theorem funD_at (c : He.SaysX (gt.flatMap faOf) (rs.map DRow.toD) [] (tfOf rs) (exOf gt) w h K) {i : Nat} {r : DRow} (e : rs[i]? = some r) : ∃ fd, FunD K r.x r.x r.params r.body r.scope [] [] (He.ga K r.x) fd :=
  c.t.d.def_ i (d := r.toD) (by rw [List.getElem?_map, e]; rfl)
theorem glb_of (X : K.In h) (G : h.Ns mainGlobals mg) (c : He.SaysX (gt.flatMap faOf) (rs.map DRow.toD) [] (tfOf rs) (exOf gt) w h K) (hg : gt.all (gkB rs) = true) (hc : chkAll gt ds rs = true) (hb : AllB rs)
    (hT : ∀ p ∈ tfOf rs, GxR.TabB base mg (He.cT K p).1 (He.cT K p).2) : Glb gt ds (TsOf K rs) K mg base := by
  refine ⟨fun j y g e => ?_⟩
  have m := List.mem_of_getElem? e
  have k := List.all_eq_true.mp hg _ m
  have fact : ∀ f, f ∈ faOf (y, g) → f.ok K = true := fun f hf => c.t.d.facts (List.mem_flatMap.mpr ⟨_, m, hf⟩)
  cases g with
  | blt => exact He.free_ok X G (fact _ List.mem_cons_self)
  | cst d =>
    cases d with
    | int i =>
      obtain ⟨t, e1⟩ := He.int_ok X G (fact _ List.mem_cons_self)
      exact ⟨.int i, _, e1, ⟨t, rfl⟩, fun lv H => by unfold DenD; rfl⟩
    | str z =>
      obtain ⟨t, e1⟩ := He.str_ok X G (fact _ List.mem_cons_self)
      exact ⟨.str z, _, e1, ⟨t, rfl⟩, fun lv H => by unfold DenD; rfl⟩
    | tuple ds =>
      have e1 := He.glo_ok X G (fact _ List.mem_cons_self)
      have e2 := List.all_eq_true.mp c.more _ m
      dsimp only at e2
      split at e2
      · rename_i vs ev
        exact ⟨.ref (He.ga K y), _, e1, rfl, fun lv H => by
          unfold DenD
          refine ⟨_, _, rfl, He.tupB_ok e2 H, ?_, dvs_den ev⟩
          have k2 : ds.length ≤ 1000 := of_decide_eq_true k
          rw [sizeLine_eq]; omega⟩
      · cases e2
    | _ => cases k
  | fn i n =>
    have e1 := He.glo_ok X G (fact _ List.mem_cons_self)
    simp only [gkB] at k
    split at k
    · rename_i r er
      simp only [Bool.and_eq_true, decide_eq_true_eq] at k
      obtain ⟨k1, k2⟩ := k
      subst k1
      obtain ⟨fd, F⟩ := funD_at c er
      obtain ⟨d, hd, hcd⟩ := chkAll_at hc er
      simp only [chkD, Bool.and_eq_true, decide_eq_true_eq] at hcd
      obtain ⟨⟨⟨c1, c2⟩, c3⟩, c4⟩ := hcd
      refine ⟨_, fd, r.ps, e1, F.kp, F.bindsN (hb.mem r (List.mem_of_getElem? er)), k2, ⟨d, _, _, _, _, _, r.N, r.tb, hd, F, scB_ok c1, c2, c3, c4, fun ht => ?_⟩⟩
      have mt : ((r.x, none) : He.Defn) ∈ tfOf rs := List.mem_map.mpr ⟨r, List.mem_filter.mpr ⟨List.mem_of_getElem? er, ht⟩, rfl⟩
      obtain ⟨oc, od, dV, kV, doc, pm, an, cdv, ct, osl, rfl, lk, hcd, _, _⟩ := F.ex
      obtain ⟨cc, rfl⟩ := He.codeIn_ref hcd
      have ec : He.codeOf K (r.x, none) = cc := He.codeOf_eq lk rfl
      refine ⟨cc, (He.cT K (r.x, none)).2, rfl, ?_, List.mem_map.mpr ⟨_, mt, rfl⟩⟩
      have q := hT _ mt
      rw [show (He.cT K (r.x, none)).1 = cc from ec] at q
      exact q
    · cases k
end
/-- the script as the law finds it -/
def script0 (ns : List Int) : Sto := [.rol (ns.map fun n => .d (.int n))]
theorem ints_den {K : PySem.W.Frag} {lv : Addr → Prop} {mu : List Addr} {H : Hp} : ∀ ns : List Int, DenXs K lv mu H (ns.map fun n => .d (.int n)) (ns.map V.int)
  | [] => .nil
  | n :: ns => .cons int_denX (ints_den ns)
theorem sto0 {K : PySem.W.Frag} {Ts : List Addr} {H : Hp} {a : Addr} {ns : List Int} (hS : SqL K H a (ns.map V.int)) (hl : ns.length ≤ sizeLine) (hT : ∀ P ∈ Ts, H P = some (.tbl #[])) : StoOk K Ts (script0 ns) [a] [] H := by
  have one : ∀ {r : Nat} {o : MO}, (script0 ns)[r]? = some o → r = 0 ∧ o = .rol (ns.map fun n => .d (.int n)) := fun {r o} e => by
    cases r with
    | zero => cases e; exact ⟨rfl, rfl⟩
    | succ r => cases e
  refine ⟨rfl, fun r r' o o' b e e' m => ?_, fun r o b e e2 => ?_, fun b hb => absurd hb List.not_mem_nil, fun b hb => absurd hb List.not_mem_nil, fun P hP => ⟨#[], hT P hP, trivial⟩⟩
  · rw [(one e).2] at m; cases m
  · obtain ⟨rfl, rfl⟩ := one e
    cases e2
    refine ⟨by rw [List.length_map]; exact hl, ns.map V.int, ?_, ints_den ns⟩
    rcases hS with q | q
    · refine .inl ⟨q, fun z => ?_⟩
      rcases z with z | ⟨r, o, e3, m, _⟩
      · cases z
      · rw [(one e3).2] at m; cases m
    · exact .inr q
/-- THE LAW over the small language -/
theorem pb_law {l : PySem.W.OpenLaw} {gt : List (Str × Gk)} {ds : List Def'} {rs : List DRow} {n k i : Nat} {q : Program} {loose : List Str} {d : DefRec} {r : DRow} (hn : l.most = some n) (hn2 : n ≤ sizeLine) (hdf : d.params.defaults = []) (hk : 8 * k + 20 + (1 + claimMargin) < recursionLimit ∧ 4 + 64 * k + 500 < cLine)
    (hname : d.name = r.x) (hr : rs[i]? = some r) (h1 : r.ps.length = 1) (hgi : ∃ j : Nat, gt[j]? = some (r.x, Gk.fn i 1)) (hg : gt.all (gkB rs) = true) (hc : chkAll gt ds rs = true) (hb : AllB rs)
    (M : ∀ ns : List Int, ns.length ≤ n → (∀ z ∈ ns, Builtin.Int.intBits z ≤ 1048576) → ∃ S, callN ds k i [.r 0] (script0 ns) = .ok (.d (.bool true)) S) :
    PySem.W.WalkO q loose (PySem.W.XL q []) (fun w h => ∃ K : PySem.W.Frag, K.In h ∧ He.SaysX (gt.flatMap faOf) (rs.map DRow.toD) [] (tfOf rs) (exOf gt) w h K) l.row.toRowW d [] (fun f vs => PySem.call f vs) := by
  refine Att.attach_callB hn hdf fun w s₀ s mg mb fa o pm cd doc a vs ns G Y ho hd hcd hmg hobj hints hlen hbits hgen => ?_
  obtain ⟨K, X, c⟩ := Y
  have lX : ∀ p ∈ tfOf rs, PySem.W.CodeHd s.heap (He.cT K p).1 (He.cT K p).2 := fun p hp => PySem.W.codeHd_of_K X (c.hd p hp)
  refine law_end (cs := (tfOf rs).map fun p => He.cT K p) X G.T.g G.T.b G.T.builtins G.T.nolimit hgen ?_ ?_ ?_ G.T.bmain hobj hints (Nat.le_trans hlen hn2) fun base H Xb Gb hT hHT hS e0 => ?_
  · intro p hp
    obtain ⟨p', hp', rfl⟩ := List.mem_map.mp hp
    exact c.empty p' hp'
  · intro p hp
    obtain ⟨p', hp', rfl⟩ := List.mem_map.mp hp
    exact c.out p' hp'
  · intro p hp
    obtain ⟨p', hp', rfl⟩ := List.mem_map.mp hp
    exact lX p' hp'
  · have GL := glb_of X G.T.g c hg hc hb fun p hp => hT _ (List.mem_map.mpr ⟨p, hp, rfl⟩)
    obtain ⟨j, ej⟩ := hgi
    obtain ⟨fL, fd, ps, m1, m2, m3, m4, m5⟩ := GL.ok j _ _ ej
    rw [hname, m1] at hmg
    obtain rfl : fL = fa := by cases hmg; rfl
    have F := fnG_all (P := l.prog) (w := w) GL k i fL fd ps 1 m4 m5
    obtain ⟨S', eS⟩ := M ns hlen hbits
    refine F.run callerA [] s H ⟨[.ref a], []⟩ [.ref a] [.ref a] _ ⟨rfl, by have := hk.1; show 1 + claimMargin + 8 * k + 20 < recursionLimit; omega, hk.2, rfl⟩ e0 ?_ (.cons rfl .nil) ⟨rfl, [.r 0], script0 ns, [a], [], sto0 hS (Nat.le_trans hlen hn2) (fun P hP => ?_), .cons ⟨a, rfl, rfl⟩ .nil, ?_⟩
    · have b := m3 s [.ref a] X (by rw [m4]; rfl)
      rw [List.append_nil] at b
      exact b
    · obtain ⟨p, hp, rfl⟩ := List.mem_map.mp hP
      exact hHT _ (List.mem_map.mpr ⟨p, hp, rfl⟩)
    · rw [eS]
      intro mu' H' g s' v hv
      unfold DenX DenD at hv
      exact hv
end PB

namespace PB
open PySem PySem.Spec PyProof.Rows L2

/-- r ends well, and so -/
def wp {α : Type} (r : R α) (Q : α → Sto → Prop) : Prop := match r with
  | .ok x S => Q x S
  | _ => False
section
variable {α β : Type}
theorem wp_ok {x : α} {S : Sto} {Q : α → Sto → Prop} : wp (.ok x S) Q = Q x S := rfl
theorem wp_bad {Q : α → Sto → Prop} : wp (.bad : R α) Q = False := rfl
theorem wp_bind {r : R α} {f : α → Sto → R β} {Q : β → Sto → Prop} : wp (r.bind f) Q = wp r (fun x S => wp (f x S) Q) := by
  cases r <;> rfl
theorem wp_mono {r : R α} {P Q : α → Sto → Prop} (h : wp r P) (i : ∀ x S, P x S → Q x S) : wp r Q := by
  cases r with
  | ok x S => exact i x S h
  | exc c as S => exact h
  | bad => exact h
theorem wp_nox {r : R α} {Q : α → Sto → Prop} : wp (nox r) Q = wp r Q := by
  cases r <;> rfl
theorem wp_ite {c : Prop} [Decidable c] {a b : R α} {Q : α → Sto → Prop} : wp (if c then a else b) Q = if c then wp a Q else wp b Q := by
  by_cases h : c
  · rw [if_pos h, if_pos h]
  · rw [if_neg h, if_neg h]
theorem wp_eq {r : R α} {Q : α → Sto → Prop} (h : wp r Q) : ∃ x S, r = .ok x S ∧ Q x S := by
  cases r with
  | ok x S => exact ⟨x, S, rfl, h⟩
  | exc c as S => exact h.elim
  | bad => exact h.elim
end
theorem wp_forL {t : Tg} {p : Ms} {Q : Fl → Sto → Prop} (I : List Xv → Env0' → Sto → Prop) (h0 : ∀ ρ S, I [] ρ S → Q (.nx ρ) S)
    (hs : ∀ x xs ρ S, I (x :: xs) ρ S → ∃ ρ1, asgT t x ρ = some ρ1 ∧ wp (p ρ1 S) fun fl S1 => match fl with
      | .nx ρ2 => I xs ρ2 S1
      | .ct ρ2 => I xs ρ2 S1
      | .bk ρ2 => Q (.nx ρ2) S1
      | .rt v => Q (.rt v) S1) : ∀ xs ρ S, I xs ρ S → wp (forL t p xs ρ S) Q
  | [], ρ, S, i => h0 ρ S i
  | x :: xs, ρ, S, i => by
    obtain ⟨ρ1, e, h⟩ := hs x xs ρ S i
    unfold forL
    rw [e]
    dsimp only
    rw [wp_bind]
    refine wp_mono h fun fl S1 z => ?_
    cases fl with
    | nx ρ2 => exact wp_forL I h0 hs xs ρ2 S1 z
    | ct ρ2 => exact wp_forL I h0 hs xs ρ2 S1 z
    | bk ρ2 => exact z
    | rt v => exact z

def nxQ (K : Env0' → Sto → Prop) (Q : Fl → Sto → Prop) (fl : Fl) (S : Sto) : Prop := match fl with
  | .nx ρ => K ρ S
  | fl => Q fl S
section
variable {F : Fns} {ρ : Env0'} {S : Sto} {Q : Xv → Sto → Prop} {Qs : List Xv → Sto → Prop} {QF : Fl → Sto → Prop} {QB : Bool → Sto → Prop} {K : Env0' → Sto → Prop}
theorem nxQ_nx : nxQ K QF (.nx ρ) S = K ρ S := rfl
theorem nxQ_rt {x : Xv} : nxQ K QF (.rt x) S = QF (.rt x) S := rfl
theorem nxQ_bk : nxQ K QF (.bk ρ) S = QF (.bk ρ) S := rfl
theorem nxQ_ct : nxQ K QF (.ct ρ) S = QF (.ct ρ) S := rfl
theorem w_var {i : Nat} : wp (denE F (.var i) ρ S) Q = match ρ[i]? with
    | some (some x) => Q x S
    | _ => False := by
  unfold denE pVar
  cases ρ[i]? with
  | none => rfl
  | some o => cases o <;> rfl
theorem w_cst {d : D} : wp (denE F (.cst d) ρ S) Q = Q (.d d) S := rfl
theorem w_gl {j : Nat} {d : D} : wp (denE F (.gl j d) ρ S) Q = Q (.d d) S := rfl
theorem w_bin {op : BOp} {a b : PB.E} : wp (denE F (.bin op a b) ρ S) Q = wp (denE F a ρ S) fun x S1 => wp (denE F b ρ S1) fun y S2 => wp (pBin op x y S2) Q := by
  rw [denE, pB2, wp_bind]
  simp only [wp_bind]
theorem w_neg {a : PB.E} : wp (denE F (.neg a) ρ S) Q = wp (denE F a ρ S) fun x S1 => wp (fNeg x S1) Q := by
  rw [denE, pB1, wp_bind]
theorem w_cmp {op : COp} {a b : PB.E} : wp (denE F (.cmp op a b) ρ S) Q = wp (denE F a ρ S) fun x S1 => wp (denE F b ρ S1) fun y S2 => wp (pCmp op x y S2) Q := by
  rw [denE, pB2, wp_bind]
  simp only [wp_bind]
theorem w_ix {a b : PB.E} : wp (denE F (.ix a b) ρ S) Q = wp (denE F a ρ S) fun x S1 => wp (denE F b ρ S1) fun y S2 => wp (pIx x y S2) Q := by
  rw [denE, pB2, wp_bind]
  simp only [wp_bind]
theorem w_call {j f : Nat} {es : Es} : wp (denE F (.call j f es) ρ S) Q = wp (denEs F es ρ S) fun xs S1 => wp (F f xs S1) Q := by
  rw [denE, pCall, wp_bind]
  simp only [wp_nox]
theorem w_bi {j : Nat} {b : Bi} {es : Es} : wp (denE F (.bi j b es) ρ S) Q = wp (denEs F es ρ S) fun xs S1 => wp (b.f xs S1) Q := by
  rw [denE, pCall, wp_bind]
theorem w_nil : wp (denEs F .nil ρ S) Qs = Qs [] S := rfl
theorem w_cons {e : PB.E} {es : Es} : wp (denEs F (.cons e es) ρ S) Qs = wp (denE F e ρ S) fun x S1 => wp (denEs F es ρ S1) fun xs S2 => Qs (x :: xs) S2 := by
  rw [denEs, pCons, wp_bind]
  simp only [wp_bind, wp_ok]
theorem w_tst {p : Me} : wp (tst p ρ S) QB = wp (p ρ S) fun x S1 => match truX S1 x with
    | some b => QB b S1
    | none => False := by
  unfold tst
  rw [wp_bind]
  congr 1
  funext x S1
  cases truX S1 x <;> rfl
theorem ws_nil : wp (denSs F .nil ρ S) QF = QF (.nx ρ) S := rfl
theorem ws_cons {s : St} {ss : Ss} : wp (denSs F (.cons s ss) ρ S) QF = wp (denS F s ρ S) (nxQ (fun ρ1 S1 => wp (denSs F ss ρ1 S1) QF) QF) := by
  rw [denSs, pSeq, wp_bind]
  congr 1
  funext fl S1
  cases fl <;> rfl
theorem ws_pass : wp (denS F .pass ρ S) QF = QF (.nx ρ) S := rfl
theorem ws_doc : wp (denS F .doc ρ S) QF = QF (.nx ρ) S := rfl
theorem ws_ret {e : PB.E} : wp (denS F (.ret e) ρ S) QF = wp (denE F e ρ S) fun x S1 => QF (.rt x) S1 := by
  rw [denS, pRet, wp_bind]
  rfl
theorem ws_retN : wp (denS F .retN ρ S) QF = QF (.rt (.d .none)) S := rfl
theorem ws_expr {e : PB.E} : wp (denS F (.expr e) ρ S) QF = wp (denE F e ρ S) fun _ S1 => QF (.nx ρ) S1 := by
  rw [denS, pDrop, wp_bind]
  rfl
theorem ws_set {i : Nat} {e : PB.E} : wp (denS F (.set (.nm i) e) ρ S) QF = wp (denE F e ρ S) fun x S1 => QF (.nx (ρ.set i (some x))) S1 := by
  rw [denS, pAsg, wp_bind]
  rfl
theorem ws_ife {c : PB.E} {a b : Ss} : wp (denS F (.ife c a b) ρ S) QF = wp (denE F c ρ S) fun x S1 => match truX S1 x with
    | some true => wp (denSs F a ρ S1) QF
    | some false => wp (denSs F b ρ S1) QF
    | none => False := by
  rw [denS, pIfS, wp_bind, w_tst]
  congr 1
  funext x S1
  cases truX S1 x with
  | none => rfl
  | some b => cases b <;> rfl
theorem ws_for {t : Tg} {it : It'} {b : Ss} : wp (denS F (.for t it b) ρ S) QF = wp (denI F it ρ S) fun xs S1 => wp (forL t (denSs F b) xs ρ S1) QF := by
  rw [denS, pFor, wp_bind]
theorem wi_seq {e : PB.E} : wp (denI F (.seq e) ρ S) Qs = wp (denE F e ρ S) fun x S1 => wp (seqIt x S1) Qs := by
  rw [denI, pSeqI, wp_bind]
theorem ws_brk : wp (denS F .brk ρ S) QF = QF (.bk ρ) S := rfl
theorem ws_cont : wp (denS F .cont ρ S) QF = QF (.ct ρ) S := rfl
end
theorem wf_res {tr : Bool} {n : Nat} {r : R Fl} {Q : Xv → Sto → Prop} : wp (fnRes tr n r) Q = wp r fun fl S => match fl with
    | .rt x => wp (trunc' tr n x S) Q
    | .nx _ => wp (trunc' tr n (.d .none) S) Q
    | _ => False := by
  cases r with
  | ok fl S => cases fl <;> rfl
  | exc c as S => rfl
  | bad => rfl
theorem w_callN {ds : List Def'} {k i : Nat} {d : Def'} {xs : List Xv} {S : Sto} {Q : Xv → Sto → Prop} (h : ds[i]? = some d) (hl : xs.length = d.np) : wp (callN ds (k + 1) i xs S) Q = wp (denSs (callN ds k) d.body (env0 d xs) S) fun fl S1 => match fl with
    | .rt x => wp (trunc' d.tr S.length x S1) Q
    | .nx _ => wp (trunc' d.tr S.length (.d .none) S1) Q
    | _ => False := by
  simp only [callN, h, runDef, hl, if_true, wf_res]
theorem w_trunc {S : Sto} {d : D} {Q : Xv → Sto → Prop} (h : Q (.d d) S) : wp (trunc S.length (.d d) S) Q := by
  simp only [trunc]
  split
  · rw [List.take_length]; exact h
  · exact h
section
variable {i j : Int} {S : Sto} {Q : Xv → Sto → Prop} {QL : List Xv → Sto → Prop}
theorem wb_add : wp (pBin .add (.d (.int i)) (.d (.int j)) S) Q = Q (.d (.int (i + j))) S := rfl
theorem wb_sub : wp (pBin .sub (.d (.int i)) (.d (.int j)) S) Q = Q (.d (.int (i - j))) S := rfl
theorem wb_mul : wp (pBin .mul (.d (.int i)) (.d (.int j)) S) Q = (((-(2 ^ 64) < i ∧ i < 2 ^ 64) ∨ (-(2 ^ 64) < j ∧ j < 2 ^ 64)) ∧ Q (.d (.int (i * j))) S) := by
  show wp (if cMul i j = true then R.ok _ _ else .bad) Q = _
  rw [wp_ite]
  by_cases h : (-(2 ^ 64) < i ∧ i < 2 ^ 64) ∨ (-(2 ^ 64) < j ∧ j < 2 ^ 64)
  · rw [if_pos (cMul_iff.mpr h)]; simp only [h, true_and]; rfl
  · rw [if_neg (by rw [cMul_iff]; exact h)]; simp only [h, false_and]; rfl
theorem wb_mod : wp (pBin .mod (.d (.int i)) (.d (.int j)) S) Q = (0 < j ∧ Q (.d (.int (i % j))) S) := by
  show wp (if decide _ = true then R.ok _ _ else .bad) Q = _
  rw [wp_ite]
  by_cases h : 0 < j
  · rw [if_pos (decide_eq_true h)]; simp only [h, true_and]; rfl
  · rw [if_neg (by simp [h])]; simp only [h, false_and]; rfl
theorem wb_fdiv : wp (pBin .fdiv (.d (.int i)) (.d (.int j)) S) Q = ((0 < j ∧ j < 1073741824) ∧ Q (.d (.int (i / j))) S) := by
  show wp (if cDiv i j = true then R.ok _ _ else .bad) Q = _
  rw [wp_ite]
  by_cases h : 0 < j ∧ j < 1073741824
  · rw [if_pos (cDiv_iff.mpr h)]; simp only [h, and_self, true_and]; rfl
  · rw [if_neg (by rw [cDiv_iff]; exact h)]; simp only [h, false_and]; rfl
end
end PB

namespace PB
open PySem PySem.Spec PyProof.Rows L2
/-- what the outcome of a test asks -/
def brQ (a b : Sto → Prop) (S : Sto) : Option Bool → Prop
  | some true => a S
  | some false => b S
  | none => False
theorem brQ_t {a b : Sto → Prop} {S : Sto} : brQ a b S (some true) = a S := rfl
theorem brQ_f {a b : Sto → Prop} {S : Sto} : brQ a b S (some false) = b S := rfl
theorem brQ_b {a b : Sto → Prop} {S : Sto} {c : Bool} : brQ a b S (some c) = if c = true then a S else b S := by cases c <;> rfl
section
variable {F : Fns} {ρ : Env0'} {S : Sto} {Q : Xv → Sto → Prop} {Qs : List Xv → Sto → Prop} {QF : Fl → Sto → Prop} {QB : Bool → Sto → Prop} {QO : Option Int → Sto → Prop} {QL : List D → Sto → Prop}
theorem w_not {a : PB.E} : wp (denE F (.not a) ρ S) Q = wp (denE F a ρ S) fun x S1 => brQ (Q (.d (.bool false))) (Q (.d (.bool true))) S1 (truX S1 x) := by
  rw [denE, pNot, wp_bind]
  congr 1
  funext x S1
  cases truX S1 x with
  | none => rfl
  | some b => cases b <;> rfl
theorem w_isN {a : PB.E} : wp (denE F (.isN a) ρ S) Q = wp (denE F a ρ S) fun x S1 => Q (.d (.bool (isNoneX x))) S1 := by
  rw [denE, pIsN, wp_bind]
  rfl
theorem w_ntN {a : PB.E} : wp (denE F (.ntN a) ρ S) Q = wp (denE F a ρ S) fun x S1 => Q (.d (.bool (!isNoneX x))) S1 := by
  rw [denE, pNtN, wp_bind]
  rfl
theorem wq_and {a b : PB.E} : wp (denE F (.and a b) ρ S) Q = wp (denE F a ρ S) fun x S1 => brQ (fun S1 => wp (denE F b ρ S1) Q) (Q x) S1 (truX S1 x) := by
  rw [denE, pAnd, wp_bind]
  congr 1
  funext x S1
  cases truX S1 x with
  | none => rfl
  | some b => cases b <;> rfl
theorem wq_or {a b : PB.E} : wp (denE F (.or a b) ρ S) Q = wp (denE F a ρ S) fun x S1 => brQ (Q x) (fun S1 => wp (denE F b ρ S1) Q) S1 (truX S1 x) := by
  rw [denE, pOr, wp_bind]
  congr 1
  funext x S1
  cases truX S1 x with
  | none => rfl
  | some b => cases b <;> rfl
theorem w_ife {c a b : PB.E} : wp (denE F (.ife c a b) ρ S) Q = wp (denE F c ρ S) fun x S1 => brQ (fun S1 => wp (denE F a ρ S1) Q) (fun S1 => wp (denE F b ρ S1) Q) S1 (truX S1 x) := by
  rw [denE, pIf, wp_bind, w_tst]
  congr 1
  funext x S1
  cases truX S1 x with
  | none => rfl
  | some b => cases b <;> rfl
theorem ws_if {c : PB.E} {a b : Ss} : wp (denS F (.ife c a b) ρ S) QF = wp (denE F c ρ S) fun x S1 => brQ (fun S1 => wp (denSs F a ρ S1) QF) (fun S1 => wp (denSs F b ρ S1) QF) S1 (truX S1 x) := by
  rw [ws_ife]
  first
    | rfl
    | (congr 1; funext x S1; cases truX S1 x with
      | none => rfl
      | some b => cases b <;> rfl)
theorem w_chn {op op' : COp} {a b c : PB.E} : wp (denE F (.chn op op' a b c) ρ S) Q = wp (denE F a ρ S) fun x S1 => wp (denE F b ρ S1) fun y S2 => brQ (fun S2 => wp (denE F c ρ S2) fun z S3 => wp (pCmp op' y z S3) Q) (Q (.d (.bool false))) S2 (pCmpB op x y S2) := by
  rw [denE, pChain, wp_bind]
  congr 1
  funext x S1
  rw [wp_bind]
  congr 1
  funext y S2
  cases pCmpB op x y S2 with
  | none => rfl
  | some b =>
    cases b
    · rfl
    · exact wp_bind
def alQ (k : List D → Sto → Prop) (S : Sto) : Option (List D) → Prop
  | some ds => k ds S
  | none => False
theorem alQ_s {k : List D → Sto → Prop} {ds : List D} : alQ k S (some ds) = k ds S := rfl
theorem w_tup {es : Es} : wp (denE F (.tup es) ρ S) Q = wp (denEs F es ρ S) fun xs S1 => alQ (fun ds S1 => Q (.d (.tuple ds)) S1) S1 (allD xs) := by
  rw [denE, pTup, wp_bind]
  congr 1
  funext xs S1
  cases allD xs <;> rfl
theorem w_lst {es : Es} : wp (denE F (.lst es) ρ S) Q = wp (denEs F es ρ S) fun xs S1 => alQ (fun ds S1 => Q (.d (.list ds)) S1) S1 (allD xs) := by
  rw [denE, pLst, wp_bind]
  congr 1
  funext xs S1
  cases allD xs <;> rfl
theorem w_lstR {es : Es} : wp (denE F (.lstR es) ρ S) Q = wp (denEs F es ρ S) fun xs S1 => Q (.r S1.length) (S1 ++ [.lst xs]) := by
  rw [denE, pLstR, wp_bind]
  rfl
theorem w_sl {a : PB.E} {lo hi : Oe} : wp (denE F (.sl a lo hi) ρ S) Q = wp (denE F a ρ S) fun x S1 => wp (denO F lo ρ S1) fun l S2 => wp (denO F hi ρ S2) fun h S3 => wp (pSl x l h S3) Q := by
  rw [denE, pSlice, wp_bind]
  simp only [wp_bind]
theorem wo_no : wp (denO F .no ρ S) QO = QO none S := rfl
theorem wo_yes {e : PB.E} : wp (denO F (.yes e) ρ S) QO = wp (denE F e ρ S) fun x S1 => match x with
    | .d (.int i) => QO (some i) S1
    | _ => False := by
  rw [denO, pPart, wp_bind]
  congr 1
  funext x S1
  cases x with
  | r n => rfl
  | d d => cases d <;> rfl
theorem w_isi {j k : Nat} {a : PB.E} {t : Ty} : wp (denE F (.isi j k a t) ρ S) Q = wp (denE F a ρ S) fun x S1 => match tyX S1 x with
    | some u => Q (.d (.bool (isiB u t))) S1
    | none => False := by
  rw [denE, pIsi, wp_bind]
  congr 1
  funext x S1
  cases tyX S1 x <;> rfl
theorem w_lc {vs : List Nat} {t : Tg} {it : It'} {c : Oe} {e : PB.E} : wp (denE F (.lc false vs t it c e) ρ S) Q = wp (denI F it ρ S) fun xs S1 => wp (lcLoop t (denC F c) (denE F e) (wipeR ρ vs) xs [] S1) fun ds S2 => Q (.d (.list ds)) S2 := by
  rw [denE, pSel, pLc, wp_bind]
  congr 1
  funext xs S1
  rw [wp_bind, wp_nox]
  rfl
theorem w_lcR {vs : List Nat} {t : Tg} {it : It'} {c : Oe} {e : PB.E} : wp (denE F (.lc true vs t it c e) ρ S) Q = wp (denI F it ρ S) fun xs S1 => wp (lcLoop t (denC F c) (denE F e) (wipeR ρ vs) xs [] S1) fun ds S2 => Q (.r S2.length) (S2 ++ [.lst (ds.map .d)]) := by
  rw [denE, pSel, pLcR, wp_bind]
  congr 1
  funext xs S1
  rw [wp_bind, wp_nox]
  rfl
theorem w_lc2 {vs : List Nat} {t t1 : Tg} {it it1 : It'} {c c1 : Oe} {e : PB.E} : wp (denE F (.lc2 false vs t it c t1 it1 c1 e) ρ S) Q = wp (denI F it ρ S) fun xs S1 => wp (lcLoop2 t (denC F c) (denI F it1) t1 (denC F c1) (denE F e) (wipeR ρ vs) xs [] S1) fun ds S2 => Q (.d (.list ds)) S2 := by
  rw [denE, pSel2, pLc2, wp_bind]
  congr 1
  funext xs S1
  rw [wp_bind, wp_nox]
  rfl
theorem w_gen {j : Nat} {b : Bool} {vs : List Nat} {t : Tg} {it : It'} {c : Oe} {e : PB.E} : wp (denE F (.gen j b vs t it c e) ρ S) Q = wp (denI F it ρ S) fun xs S1 => wp (gLp b t (denC F c) (denE F e) (wipeR ρ vs) xs S1) fun k S2 => Q (.d (.bool k)) S2 := by
  rw [denE, pGen, wp_bind]
  congr 1
  funext xs S1
  rw [wp_bind, wp_nox]
  rfl
theorem w_frz {e : PB.E} : wp (denE F (.frz e) ρ S) Q = wp (denE F e ρ S) fun x S1 => wp (frzX x S1) Q := by
  rw [denE, pFrz, wp_bind]
theorem wc_no : wp (denC F .no ρ S) QB = QB true S := rfl
theorem wc_yes {e : PB.E} : wp (denC F (.yes e) ρ S) QB = wp (denE F e ρ S) fun x S1 => match truX S1 x with
    | some b => QB b S1
    | none => False := by
  rw [denC, w_tst]
  try congr 1
theorem wi_rng1 {j : Nat} {a : Es} : wp (denI F (.rng1 j a) ρ S) Qs = wp (denEs F a ρ S) fun xs S1 => wp (rng1 xs S1) Qs := by
  rw [denI, pItC, wp_bind]
theorem wi_rng2 {j : Nat} {a : Es} : wp (denI F (.rng2 j a) ρ S) Qs = wp (denEs F a ρ S) fun xs S1 => wp (rng2 xs S1) Qs := by
  rw [denI, pItC, wp_bind]
theorem wi_zip {j : Nat} {a : Es} : wp (denI F (.zip j a) ρ S) Qs = wp (denEs F a ρ S) fun xs S1 => wp (zipIt xs S1) Qs := by
  rw [denI, pZip, wp_bind]
theorem wi_zipS {j : Nat} {a : PB.E} : wp (denI F (.zipS j a) ρ S) Qs = wp (denE F a ρ S) fun x S1 => wp (starIt x S1) Qs := by
  rw [denI, pZipS, wp_bind]
theorem wi_enm {j : Nat} {a : Es} : wp (denI F (.enm j a) ρ S) Qs = wp (denEs F a ρ S) fun xs S1 => wp (enumIt xs S1) Qs := by
  rw [denI, pEnum, wp_bind]
theorem ws_tp {is : List Nat} {e : PB.E} : wp (denS F (.set (.tp is) e) ρ S) QF = wp (denE F e ρ S) fun x S1 => match asgT (.tp is) x ρ with
    | some ρ1 => QF (.nx ρ1) S1
    | none => False := by
  rw [denS, pAsg, wp_bind]
  congr 1
  funext x S1
  cases asgT (.tp is) x ρ <;> rfl
theorem ws_par {i j : Nat} {a b : PB.E} : wp (denS F (.par i j (.cons a (.cons b .nil))) ρ S) QF = wp (denE F a ρ S) fun x S1 => wp (denE F b ρ S1) fun y S2 => QF (.nx ((ρ.set i (some x)).set j (some y))) S2 := by
  rw [denS, pPar, wp_bind, w_cons]
  simp only [w_cons, w_nil]
  rfl
theorem ws_setI {o i e : PB.E} : wp (denS F (.setI o i e) ρ S) QF = wp (denE F e ρ S) fun x S1 => wp (denE F o ρ S1) fun y S2 => wp (denE F i ρ S2) fun z S3 => match setI y z x S3 with
    | some S4 => QF (.nx ρ) S4
    | none => False := by
  rw [denS, pSetI, wp_bind]
  congr 1
  funext x S1
  rw [wp_bind]
  congr 1
  funext y S2
  rw [wp_bind]
  congr 1
  funext z S3
  cases setI y z x S3 <;> rfl
end
end PB

namespace PB
open PySem PySem.Spec PyProof.Rows L2
theorem eq_of_wp {α : Type} {r : R α} {v : α} {S : Sto} (h : wp r fun x S' => x = v ∧ S' = S) : r = .ok v S := by
  obtain ⟨x, S', e, h1, h2⟩ := wp_eq h
  rw [e, h1, h2]
theorem wp_of_eq {α : Type} {r : R α} {v : α} {S : Sto} {Q : α → Sto → Prop} (h : r = .ok v S) : wp r Q = Q v S := by rw [h]; rfl
/-- a comprehension whose parts change nothing: over a list's items by a reading g of each -/
theorem lc_pure {β : Type} {t : Tg} {pt : Env0' → Sto → R Bool} {pe : Me} {ρ : Env0'} {S : Sto} {Q : List D → Sto → Prop} (g : β → Xv) (p : β → Bool) (f : β → D) : ∀ (l : List β) (acc : List D), (∀ x ∈ l, ∃ ρ1, asgT t (g x) ρ = some ρ1 ∧ wp (pt ρ1 S) (fun b S1 => b = p x ∧ S1 = S) ∧ (p x = true → wp (pe ρ1 S) fun y S1 => y = .d (f x) ∧ S1 = S)) →
    Q (acc ++ (l.filter p).map f) S → wp (lcLoop t pt pe ρ (l.map g) acc S) Q
  | [], acc, _, h => by
    rw [List.filter_nil, List.map_nil, List.append_nil] at h
    exact h
  | x :: l, acc, hx, h => by
    obtain ⟨ρ1, e, h1, h2⟩ := hx x (List.mem_cons_self ..)
    rw [List.map_cons]
    unfold lcLoop
    rw [e]
    dsimp only
    rw [eq_of_wp h1]
    simp only [R.bind]
    cases hp : p x with
    | true =>
      rw [if_pos rfl, eq_of_wp (h2 hp)]
      refine lc_pure g p f l _ (fun y hy => hx y (List.mem_cons_of_mem _ hy)) ?_
      rw [List.filter_cons_of_pos hp, List.map_cons] at h
      rw [List.append_assoc]
      exact h
    | false =>
      rw [if_neg Bool.false_ne_true]
      refine lc_pure g p f l _ (fun y hy => hx y (List.mem_cons_of_mem _ hy)) ?_
      rw [List.filter_cons_of_neg (by rw [hp]; exact Bool.false_ne_true)] at h
      exact h
/-- without a condition -/
theorem lc_map {β : Type} {t : Tg} {pe : Me} {F : Fns} {ρ : Env0'} {S : Sto} {Q : List D → Sto → Prop} (g : β → Xv) (f : β → D) (l : List β) (hx : ∀ x ∈ l, ∃ ρ1, asgT t (g x) ρ = some ρ1 ∧ wp (pe ρ1 S) fun y S1 => y = .d (f x) ∧ S1 = S)
    (h : Q (l.map f) S) : wp (lcLoop t (denC F .no) pe ρ (l.map g) [] S) Q := by
  refine lc_pure g (fun _ => true) f l [] (fun x hm => ?_) ?_
  · obtain ⟨ρ1, e, h1⟩ := hx x hm
    exact ⟨ρ1, e, ⟨rfl, rfl⟩, fun _ => h1⟩
  · rw [List.nil_append, List.filter_eq_self.mpr (fun _ _ => rfl)]
    exact h
/-- all, any of pure tests -/
theorem gen_all {β : Type} {t : Tg} {pe : Me} {F : Fns} {ρ : Env0'} {S : Sto} {Q : Bool → Sto → Prop} (g : β → Xv) (f : β → Bool) : ∀ l : List β, (∀ x ∈ l, ∃ ρ1, asgT t (g x) ρ = some ρ1 ∧ wp (pe ρ1 S) fun y S1 => y = .d (.bool (f x)) ∧ S1 = S) →
    Q (l.all f) S → wp (gLp false t (denC F .no) pe ρ (l.map g) S) Q
  | [], _, h => h
  | x :: l, hx, h => by
    obtain ⟨ρ1, e, h1⟩ := hx x (List.mem_cons_self ..)
    rw [List.map_cons]
    unfold gLp
    rw [e]
    dsimp only
    show wp ((R.ok true S : R Bool).bind _) Q
    simp only [R.bind, if_true]
    rw [eq_of_wp h1]
    rw [List.all_cons] at h
    cases hf : f x with
    | true =>
      rw [hf, Bool.true_and] at h
      exact gen_all g f l (fun y hy => hx y (List.mem_cons_of_mem _ hy)) h
    | false =>
      rw [hf, Bool.false_and] at h
      exact h
theorem gen_any {β : Type} {t : Tg} {pe : Me} {F : Fns} {ρ : Env0'} {S : Sto} {Q : Bool → Sto → Prop} (g : β → Xv) (f : β → Bool) : ∀ l : List β, (∀ x ∈ l, ∃ ρ1, asgT t (g x) ρ = some ρ1 ∧ wp (pe ρ1 S) fun y S1 => y = .d (.bool (f x)) ∧ S1 = S) →
    Q (l.any f) S → wp (gLp true t (denC F .no) pe ρ (l.map g) S) Q
  | [], _, h => h
  | x :: l, hx, h => by
    obtain ⟨ρ1, e, h1⟩ := hx x (List.mem_cons_self ..)
    rw [List.map_cons]
    unfold gLp
    rw [e]
    dsimp only
    show wp ((R.ok true S : R Bool).bind _) Q
    simp only [R.bind, if_true]
    rw [eq_of_wp h1]
    rw [List.any_cons] at h
    cases hf : f x with
    | true =>
      rw [hf, Bool.true_or] at h
      exact h
    | false =>
      rw [hf, Bool.false_or] at h
      exact gen_any g f l (fun y hy => hx y (List.mem_cons_of_mem _ hy)) h
section
variable {S : Sto} {b : Bool} {i j : Int} {Q : Xv → Sto → Prop}
theorem tru_b : truX S (.d (.bool b)) = some b := rfl
theorem tru_i : truX S (.d (.int i)) = some (i != 0) := rfl
theorem sh_i : shD (.int i) = true := rfl
theorem sh_b : shD (.bool b) = true := rfl
theorem cb_le : pCmpB (.ord .le) (.d (.int i)) (.d (.int j)) S = some (decide (i ≤ j)) := rfl
theorem cb_lt : pCmpB (.ord .lt) (.d (.int i)) (.d (.int j)) S = some (decide (i < j)) := rfl
theorem cb_ge : pCmpB (.ord .ge) (.d (.int i)) (.d (.int j)) S = some (decide (j ≤ i)) := rfl
theorem cb_gt : pCmpB (.ord .gt) (.d (.int i)) (.d (.int j)) S = some (decide (j < i)) := rfl
theorem cb_eq : pCmpB .eq (.d (.int i)) (.d (.int j)) S = some (i == j) := rfl
theorem cb_ne : pCmpB .ne (.d (.int i)) (.d (.int j)) S = some (!(i == j)) := rfl
theorem wc_of {op : COp} {x y : Xv} : wp (pCmp op x y S) Q = match pCmpB op x y S with
    | some c => Q (.d (.bool c)) S
    | none => False := by
  unfold pCmp boolR
  cases pCmpB op x y S <;> rfl
theorem ix_t {ds : List D} {d : D} (h : atI ds i = some d) : wp (pIx (.d (.tuple ds)) (.d (.int i)) S) Q = Q (.d d) S := by
  unfold pIx
  dsimp only
  rw [h]
  rfl
theorem ix_l {ds : List D} {d : D} (h : atI ds i = some d) : wp (pIx (.d (.list ds)) (.d (.int i)) S) Q = Q (.d d) S := by
  unfold pIx
  dsimp only
  rw [h]
  rfl
theorem atI_nat {α : Type} {xs : List α} {i : Int} {x : α} (h0 : 0 ≤ i) (h : xs[i.toNat]? = some x) : atI xs i = some x := by
  have hl : i.toNat < xs.length := (List.getElem?_eq_some_iff.mp h).1
  unfold atI ixN
  rw [if_pos h0]
  have h1 : i < xs.length := by omega
  rw [if_pos h1]
  exact h
end
end PB

namespace PB
open PySem PySem.Spec PyProof.Rows L2
def rowD (bs : List Int) : D := .tuple (bs.map .int)
def rowsD (rows : List (List Int)) : D := .tuple (rows.map rowD)
def cols (rows : List (List Int)) (p : Nat) : List (List Int) := (List.range p).map fun s => rows.map fun r => r.getD s 0
theorem range_getD (r : List Int) : (List.range r.length).map (fun s => r.getD s 0) = r := by
  apply List.ext_getElem
  · simp
  · intro i h1 h2
    simp [List.getD_eq_getElem?_getD, List.getElem?_eq_getElem h2]
theorem zw_self {α β γ δ : Type} (f : β → γ → δ) (a : α → β) (b : α → γ) : ∀ l : List α, List.zipWith f (l.map a) (l.map b) = l.map fun x => f (a x) (b x)
  | [] => rfl
  | x :: l => by rw [List.map_cons, List.map_cons, List.zipWith_cons_cons, zw_self f a b l, List.map_cons]
theorem zipN_cols {p : Nat} : ∀ {rows : List (List Int)}, rows ≠ [] → (∀ r ∈ rows, r.length = p) → zipN (rows.map fun r => r.map PyData.int) = (cols rows p).map fun c => c.map PyData.int
  | [], h, _ => absurd rfl h
  | [r], _, hl => by
    have e := hl r (List.mem_cons_self ..)
    subst e
    show (r.map PyData.int).map (fun d => [d]) = _
    unfold cols
    conv => lhs; rw [← range_getD r]
    simp [List.map_map, Function.comp_def]
  | r :: q :: rest, _, hl => by
    have e := hl r (List.mem_cons_self ..)
    have ih := zipN_cols (p := p) (rows := q :: rest) (by simp) (fun x hx => hl x (List.mem_cons_of_mem _ hx))
    show List.zipWith (· :: ·) (r.map PyData.int) (zipN ((q :: rest).map fun r => r.map PyData.int)) = _
    rw [ih]
    unfold cols
    have e2 : r.map PyData.int = (List.range p).map fun s => PyData.int (r.getD s 0) := by
      conv => lhs; rw [← range_getD r, e]
      rw [List.map_map]; rfl
    rw [e2, List.map_map, zw_self, List.map_map]
    rfl
theorem srcXs_rows : ∀ rows : List (List Int), srcXs ((rows.map rowD).map .d) = some (rows.map fun r => r.map PyData.int)
  | [] => rfl
  | r :: rows => by
    rw [List.map_cons, List.map_cons]
    unfold srcXs
    rw [srcXs_rows rows]
    rfl
theorem star_rows {rows : List (List Int)} {p : Nat} {S : Sto} (h0 : rows ≠ []) (h5 : rows.length ≤ 5) (hl : ∀ r ∈ rows, r.length = p) : starIt (.d (rowsD rows)) S = .ok ((cols rows p).map fun c => .d (rowD c)) S := by
  have h1 : 1 ≤ rows.length := List.length_pos_iff.mpr h0
  show zipIt ((rows.map rowD).map .d) S = _
  unfold zipIt
  rw [srcXs_rows]
  dsimp only
  rw [if_pos (by rw [List.length_map]; exact ⟨h1, h5⟩), zipN_cols h0 hl, List.map_map]
  rfl
theorem bind_ok {α β : Type} {a : α} {S : Sto} {f : α → Sto → R β} : (R.ok a S).bind f = f a S := rfl
/-- two clauses of pure things -/
theorem lc2_pure {β γ : Type} {t t1 : Tg} {F : Fns} {it1 : Mes} {pe : Me} {ρ : Env0'} {S : Sto} {Q : List D → Sto → Prop} (g : β → Xv) (g1 : γ → Xv) (ys : β → List γ) (f : β → γ → D) (n : Nat) : ∀ (l : List β) (acc : List D),
    (∀ x ∈ l, ∃ ρ1, asgT t (g x) ρ = some ρ1 ∧ wp (it1 ρ1 S) (fun zs S1 => zs = (ys x).map g1 ∧ S1 = S) ∧ (ys x).length = n ∧ ∀ y ∈ ys x, ∃ ρ2, asgT t1 (g1 y) (wipeR ρ1 t1.ix) = some ρ2 ∧ wp (pe ρ2 S) fun z S1 => z = .d (f x y) ∧ S1 = S) →
    acc.length + l.length * n ≤ sizeLine → Q (acc ++ l.flatMap fun x => (ys x).map (f x)) S → wp (lcLoop2 t (denC F .no) it1 t1 (denC F .no) pe ρ (l.map g) acc S) Q
  | [], acc, _, _, h => by
    rw [List.flatMap_nil, List.append_nil] at h
    exact h
  | x :: l, acc, hx, hs, h => by
    obtain ⟨ρ1, e, h1, hn, h2⟩ := hx x (List.mem_cons_self ..)
    rw [List.map_cons]
    unfold lcLoop2
    rw [e]
    dsimp only
    show wp ((R.ok true S : R Bool).bind _) Q
    simp only [bind_ok, if_true]
    rw [eq_of_wp h1, bind_ok]
    have hs2 : acc.length + n + l.length * n ≤ sizeLine := by
      rw [List.length_cons, Nat.succ_mul] at hs
      omega
    rw [if_pos (by rw [List.length_map, hn]; omega), wp_bind]
    refine lc_pure (pt := denC F .no) g1 (fun _ => true) (f x) (ys x) acc (fun y hy => ?_) ?_
    · obtain ⟨ρ2, e2, h3⟩ := h2 y hy
      exact ⟨ρ2, e2, ⟨rfl, rfl⟩, fun _ => h3⟩
    · rw [List.filter_eq_self.mpr (fun _ _ => rfl)]
      refine lc2_pure g g1 ys f n l _ (fun y hy => hx y (List.mem_cons_of_mem _ hy)) ?_ ?_
      · rw [List.length_append, List.length_map, hn]; exact hs2
      · rw [List.flatMap_cons] at h
        rw [List.append_assoc]
        exact h
section
variable {S : Sto} {ds : List D} {i : Int} {b : Bool} {Q : Xv → Sto → Prop}
theorem ft_l : wp (fTup [.d (.list ds)] S) Q = Q (.d (.tuple ds)) S := rfl
theorem ft_t : wp (fTup [.d (.tuple ds)] S) Q = Q (.d (.tuple ds)) S := rfl
theorem fl_l : wp (fLen [.d (.list ds)] S) Q = Q (.d (.int ds.length)) S := rfl
theorem fl_t : wp (fLen [.d (.tuple ds)] S) Q = Q (.d (.int ds.length)) S := rfl
theorem fi_i : wp (fInt [.d (.int i)] S) Q = Q (.d (.int i)) S := rfl
theorem ty_t : tyX S (.d (.tuple ds)) = some .tuple := rfl
theorem ty_l : tyX S (.d (.list ds)) = some .list := rfl
theorem ty_i : tyX S (.d (.int i)) = some .int := rfl
theorem ty_b : tyX S (.d (.bool b)) = some .bool := rfl
end
end PB

namespace PB
open PySem PySem.Spec PyProof.Rows L2


section
variable {S : Sto} {a b c d : D} {ds : List D} {Q : Xv → Sto → Prop} {QL : List Xv → Sto → Prop}
theorem ix_t0 : wp (pIx (.d (.tuple (a :: ds))) (.d (.int 0)) S) Q = Q (.d a) S := ix_t (atI_nat (by decide) rfl)
theorem ix_t1 : wp (pIx (.d (.tuple (a :: b :: ds))) (.d (.int 1)) S) Q = Q (.d b) S := ix_t (atI_nat (by decide) rfl)
theorem ix_t2 : wp (pIx (.d (.tuple (a :: b :: c :: ds))) (.d (.int 2)) S) Q = Q (.d c) S := ix_t (atI_nat (by decide) rfl)
theorem ix_t3 : wp (pIx (.d (.tuple (a :: b :: c :: d :: ds))) (.d (.int 3)) S) Q = Q (.d d) S := ix_t (atI_nat (by decide) rfl)
theorem en_t : wp (enumIt [.d (.tuple ds)] S) QL = QL (enumD 0 ds) S := rfl
theorem en_l : wp (enumIt [.d (.list ds)] S) QL = QL (enumD 0 ds) S := rfl
theorem wb_shl {i j : Int} (h0 : 0 ≤ j) (h1 : j ≤ 1000000) (h2 : i.natAbs < 2 ^ 64) : wp (pBin .shl (.d (.int i)) (.d (.int j)) S) Q = Q (.d (.int (i * 2 ^ j.toNat))) S := by
  show wp (if cPow i j = true then R.ok _ _ else .bad) Q = _
  rw [if_pos (cPow_iff.mpr ⟨h0, h1, h2⟩)]; rfl
theorem wb_pow {i j : Int} (h0 : 0 ≤ j) (h1 : j ≤ 1000000) (h2 : i.natAbs < 2 ^ 64) : wp (pBin .pow (.d (.int i)) (.d (.int j)) S) Q = Q (.d (.int (i ^ j.toNat))) S := by
  show wp (if cPow i j = true then R.ok _ _ else .bad) Q = _
  rw [if_pos (cPow_iff.mpr ⟨h0, h1, h2⟩)]; rfl
theorem wb_addT {xs ys : List D} (h : xs.length + ys.length ≤ 16777216) : wp (pBin .add (.d (.tuple xs)) (.d (.tuple ys)) S) Q = Q (.d (.tuple (xs ++ ys))) S := by
  show wp (if _ then R.ok _ _ else .bad) Q = _
  rw [if_pos (by rw [sizeLine_eq]; exact h)]; rfl
theorem wb_addL {xs ys : List D} (h : xs.length + ys.length ≤ 16777216) : wp (pBin .add (.d (.list xs)) (.d (.list ys)) S) Q = Q (.d (.list (xs ++ ys))) S := by
  show wp (if _ then R.ok _ _ else .bad) Q = _
  rw [if_pos (by rw [sizeLine_eq]; exact h)]; rfl
theorem isi_tt : isiB .tuple .tuple = true := rfl
theorem isi_lt : isiB .list .tuple = false := rfl
theorem isi_it : isiB .int .tuple = false := rfl
theorem isi_ii : isiB .int .int = true := rfl
theorem isi_bi : isiB .bool .int = true := rfl
theorem isi_bb : isiB .bool .bool = true := rfl
theorem isi_ib : isiB .int .bool = false := rfl
end
theorem wp_of_ex {α β : Type} {r : R α} {P : β → Prop} {f : β → α} {g : β → Sto} {Q : α → Sto → Prop} (h : ∃ b, P b ∧ r = .ok (f b) (g b)) (hq : ∀ b, P b → Q (f b) (g b)) : wp r Q := by
  obtain ⟨b, hb, e⟩ := h
  rw [e]
  exact hq b hb
theorem wp_imp {α : Type} {r : R α} {P Q : α → Sto → Prop} (i : ∀ x S, P x S → Q x S) (h : wp r P) : wp r Q := wp_mono h i
/-- a loop that changes names alone and goes through: a fold -/
theorem for_fold {σ β : Type} {t : Tg} {p : Ms} {S : Sto} {Q : Fl → Sto → Prop} (I : σ → Env0' → Prop) (g : β → Xv) (step : σ → β → σ) : ∀ (l : List β) (s : σ) (ρ : Env0'), I s ρ →
    (∀ s ρ x, x ∈ l → I s ρ → ∃ ρ1, asgT t (g x) ρ = some ρ1 ∧ wp (p ρ1 S) fun fl S1 => S1 = S ∧ ∃ ρ2, (fl = .nx ρ2 ∨ fl = .ct ρ2) ∧ I (step s x) ρ2) →
    (∀ ρ', I (l.foldl step s) ρ' → Q (.nx ρ') S) → wp (forL t p (l.map g) ρ S) Q
  | [], s, ρ, hi, _, hq => hq ρ hi
  | x :: l, s, ρ, hi, hs, hq => by
    obtain ⟨ρ1, e, h⟩ := hs s ρ x (List.mem_cons_self ..) hi
    rw [List.map_cons]
    unfold forL
    rw [e]
    dsimp only
    rw [wp_bind]
    refine wp_mono h fun fl S1 z => ?_
    obtain ⟨rfl, ρ2, hf, i2⟩ := z
    have rest := for_fold I g step l (step s x) ρ2 i2 (fun s ρ y hy => hs s ρ y (List.mem_cons_of_mem _ hy)) hq
    rcases hf with rfl | rfl
    · exact rest
    · exact rest
/-- a loop that looks for the first thing of a kind -/
theorem for_find {β : Type} {t : Tg} {p : Ms} {S : Sto} {Q : Fl → Sto → Prop} (I : Env0' → Prop) (g : β → Xv) (c : β → Bool) (v : β → Xv) : ∀ (l : List β) (ρ : Env0'), I ρ →
    (∀ ρ x, x ∈ l → I ρ → ∃ ρ1, asgT t (g x) ρ = some ρ1 ∧ wp (p ρ1 S) fun fl S1 => S1 = S ∧ if c x = true then fl = .rt (v x) else ∃ ρ2, (fl = .nx ρ2 ∨ fl = .ct ρ2) ∧ I ρ2) →
    (match l.find? c with
      | some x => Q (.rt (v x)) S
      | none => ∀ ρ', I ρ' → Q (.nx ρ') S) → wp (forL t p (l.map g) ρ S) Q
  | [], ρ, hi, _, hq => hq ρ hi
  | x :: l, ρ, hi, hs, hq => by
    obtain ⟨ρ1, e, h⟩ := hs ρ x (List.mem_cons_self ..) hi
    rw [List.map_cons]
    unfold forL
    rw [e]
    dsimp only
    rw [wp_bind]
    rw [List.find?_cons] at hq
    refine wp_mono h fun fl S1 z => ?_
    obtain ⟨rfl, z⟩ := z
    cases hc : c x with
    | true =>
      rw [hc] at z hq
      rw [if_pos rfl] at z
      subst z
      exact hq
    | false =>
      rw [hc] at z hq
      rw [if_neg Bool.false_ne_true] at z
      obtain ⟨ρ2, hf, i2⟩ := z
      have rest := for_find I g c v l ρ2 i2 (fun ρ y hy => hs ρ y (List.mem_cons_of_mem _ hy)) hq
      rcases hf with rfl | rfl
      · exact rest
      · exact rest
/-- a loop through with a changing store -/
theorem for_inv {β : Type} {t : Tg} {p : Ms} {Q : Fl → Sto → Prop} (I : Nat → Env0' → Sto → Prop) (g : β → Xv) : ∀ (l : List β) (n : Nat) (ρ : Env0') (S : Sto), I n ρ S →
    (∀ n ρ S x, x ∈ l → I n ρ S → ∃ ρ1, asgT t (g x) ρ = some ρ1 ∧ wp (p ρ1 S) fun fl S1 => match fl with
      | .nx ρ2 => I (n + 1) ρ2 S1
      | .ct ρ2 => I (n + 1) ρ2 S1
      | .bk ρ2 => Q (.nx ρ2) S1
      | .rt v => Q (.rt v) S1) →
    (∀ ρ' S', I (n + l.length) ρ' S' → Q (.nx ρ') S') → wp (forL t p (l.map g) ρ S) Q
  | [], n, ρ, S, hi, _, hq => hq ρ S hi
  | x :: l, n, ρ, S, hi, hs, hq => by
    obtain ⟨ρ1, e, h⟩ := hs n ρ S x (List.mem_cons_self ..) hi
    rw [List.map_cons]
    unfold forL
    rw [e]
    dsimp only
    rw [wp_bind]
    refine wp_mono h fun fl S1 z => ?_
    have rest := fun ρ2 S1 (i2 : I (n + 1) ρ2 S1) => for_inv I g l (n + 1) ρ2 S1 i2 (fun n ρ S y hy => hs n ρ S y (List.mem_cons_of_mem _ hy)) (fun ρ' S' h => hq ρ' S' (by rw [List.length_cons]; rw [show n + (l.length + 1) = n + 1 + l.length by omega]; exact h))
    cases fl with
    | nx ρ2 => exact rest ρ2 S1 z
    | ct ρ2 => exact rest ρ2 S1 z
    | bk ρ2 => exact z
    | rt v => exact z
section
variable {F : Fns} {ρ : Env0'} {S : Sto} {Q : Xv → Sto → Prop} {Qs : List Xv → Sto → Prop} {QF : Fl → Sto → Prop}
theorem w_dct {ks : List Key} {es : Es} : wp (denE F (.dct ks es) ρ S) Q = wp (pVals (denL F es) ρ S) fun xs S1 => Q (.r S1.length) (S1 ++ [.dct (kvAll ks xs [])]) := by
  rw [denE, pDct, wp_bind]
  rfl
theorem wv_nil : wp (pVals (denL F .nil) ρ S) Qs = Qs [] S := rfl
theorem wv_cons {e : PB.E} {es : Es} : wp (pVals (denL F (.cons e es)) ρ S) Qs = wp (denE F e ρ S) fun x S1 => wp (pVals (denL F es) ρ S1) fun xs S2 => Qs (x :: xs) S2 := by
  rw [denL, pVals, pCons, wp_bind]
  simp only [wp_bind, wp_ok]
/-- what an own list's method asks -/
def mQ (k : Nat → Prop) : Xv → Prop
  | .r n => k n
  | _ => False
theorem mQ_r {k : Nat → Prop} {n : Nat} : mQ k (.r n) = k n := rfl
def isLst (S : Sto) (n : Nat) : Prop := ∃ xs, S[n]? = some (.lst xs)
theorem w_app {o e : PB.E} : wp (denE F (.app o e) ρ S) Q = wp (denE F o ρ S) fun x S1 => mQ (fun n => isLst S1 n ∧ wp (denE F e ρ S1) fun y S2 => wp (fApp n y S2) Q) x := by
  rw [denE, pM1, wp_bind]
  congr 1
  funext x S1
  cases x with
  | d d => rfl
  | r n =>
    show wp (match S1[n]? with
      | some (.lst _) => (denE F e ρ S1).bind fun y S2 => fApp n y S2
      | _ => .bad) Q = _
    cases h : S1[n]? with
    | none => simp [wp_bad, mQ, isLst, h]
    | some m => cases m <;> simp [wp_bad, mQ, isLst, h, wp_bind]
theorem w_rem {o e : PB.E} : wp (denE F (.rem o e) ρ S) Q = wp (denE F o ρ S) fun x S1 => mQ (fun n => isLst S1 n ∧ wp (denE F e ρ S1) fun y S2 => wp (fRem n y S2) Q) x := by
  rw [denE, pM1, wp_bind]
  congr 1
  funext x S1
  cases x with
  | d d => rfl
  | r n =>
    show wp (match S1[n]? with
      | some (.lst _) => (denE F e ρ S1).bind fun y S2 => fRem n y S2
      | _ => .bad) Q = _
    cases h : S1[n]? with
    | none => simp [wp_bad, mQ, isLst, h]
    | some m => cases m <;> simp [wp_bad, mQ, isLst, h, wp_bind]
end
theorem enumD_map {β : Type} (f : β → D) : ∀ (l : List β) (n : Nat), enumD n (l.map f) = (l.zipIdx n).map fun p => .d (.tuple [.int (p.2 : Nat), f p.1])
  | [], n => rfl
  | x :: l, n => by rw [List.map_cons, List.zipIdx_cons, List.map_cons, enumD, enumD_map f l (n + 1)]
theorem rg1 {n : Nat} {S : Sto} {QL : List Xv → Sto → Prop} (h : n ≤ 16777216) : wp (rng1 [.d (.int n)] S) QL = QL ((List.range n).map fun (k : Nat) => .d (.int k)) S := by
  have h1 : inR (n : Int) = true := by rw [inR_iff]; omega
  have h2 : decide ((n : Int).toNat ≤ sizeLine) = true := by rw [decide_eq_true_eq, sizeLine_eq]; omega
  unfold rng1
  dsimp only
  rw [h1, h2]
  show QL (rangeL 0 n) S = _
  unfold rangeL
  simp only [Int.zero_add]
theorem gen_allT {β : Type} {t : Tg} {pe : Me} {F : Fns} {ρ : Env0'} {S : Sto} {Q : Bool → Sto → Prop} (g : β → Xv) (l : List β) (hx : ∀ x ∈ l, ∃ ρ1, asgT t (g x) ρ = some ρ1 ∧ wp (pe ρ1 S) fun y S1 => y = .d (.bool true) ∧ S1 = S)
    (h : Q true S) : wp (gLp false t (denC F .no) pe ρ (l.map g) S) Q :=
  gen_all g (fun _ => true) l hx (by rw [List.all_eq_true.mpr fun _ _ => rfl]; exact h)
/-- a loop by what has been gone through -/
theorem for_preS {β : Type} {t : Tg} {p : Ms} {Q : Fl → Sto → Prop} (g : β → Xv) (I : List β → Env0' → Sto → Prop) (l : List β)
    (hs : ∀ pre x post ρ S, l = pre ++ x :: post → I pre ρ S → ∃ ρ1, asgT t (g x) ρ = some ρ1 ∧ wp (p ρ1 S) fun fl S1 => match fl with
      | .nx ρ2 => I (pre ++ [x]) ρ2 S1
      | .ct ρ2 => I (pre ++ [x]) ρ2 S1
      | .bk ρ2 => Q (.nx ρ2) S1
      | .rt v => Q (.rt v) S1)
    (hq : ∀ ρ' S', I l ρ' S' → Q (.nx ρ') S') : ∀ (post pre : List β) (ρ : Env0') (S : Sto), l = pre ++ post → I pre ρ S → wp (forL t p (post.map g) ρ S) Q
  | [], pre, ρ, S, e, hi => by
    rw [List.append_nil] at e
    subst e
    exact hq ρ S hi
  | x :: post, pre, ρ, S, e, hi => by
    obtain ⟨ρ1, ea, h⟩ := hs pre x post ρ S e hi
    rw [List.map_cons]
    unfold forL
    rw [ea]
    dsimp only
    rw [wp_bind]
    have e2 : l = (pre ++ [x]) ++ post := by rw [e]; simp
    refine wp_mono h fun fl S1 z => ?_
    cases fl with
    | nx ρ2 => exact for_preS g I l hs hq post _ ρ2 S1 e2 z
    | ct ρ2 => exact for_preS g I l hs hq post _ ρ2 S1 e2 z
    | bk ρ2 => exact z
    | rt v => exact z
theorem for_pre {β : Type} {t : Tg} {p : Ms} {Q : Fl → Sto → Prop} {ρ : Env0'} {S : Sto} (g : β → Xv) (I : List β → Env0' → Prop) (l : List β) (h0 : I [] ρ)
    (hs : ∀ pre x post ρ, l = pre ++ x :: post → I pre ρ → ∃ ρ1, asgT t (g x) ρ = some ρ1 ∧ wp (p ρ1 S) fun fl S1 => S1 = S ∧ ∃ ρ2, (fl = .nx ρ2 ∨ fl = .ct ρ2) ∧ I (pre ++ [x]) ρ2)
    (hq : ∀ ρ', I l ρ' → Q (.nx ρ') S) : wp (forL t p (l.map g) ρ S) Q := by
  refine for_preS g (fun pre ρ S' => S' = S ∧ I pre ρ) l (fun pre x post ρ S' e h => ?_) (fun ρ' S' h => ?_) l [] ρ S rfl ⟨rfl, h0⟩
  · obtain ⟨rfl, h⟩ := h
    obtain ⟨ρ1, ea, w⟩ := hs pre x post ρ e h
    refine ⟨ρ1, ea, wp_mono w fun fl S1 z => ?_⟩
    obtain ⟨rfl, ρ2, hf, i2⟩ := z
    rcases hf with rfl | rfl
    · exact ⟨rfl, i2⟩
    · exact ⟨rfl, i2⟩
  · obtain ⟨rfl, h⟩ := h
    exact hq ρ' h
/-- so many turns, the store may change -/
theorem for_turnsS {t : Tg} {p : Ms} {Q : Fl → Sto → Prop} (I : Nat → Env0' → Sto → Prop) (n : Nat)
    (hs : ∀ i ρ S, i < n → I i ρ S → ∃ ρ1, asgT t (.d (.int i)) ρ = some ρ1 ∧ wp (p ρ1 S) fun fl S1 => match fl with
      | .nx ρ2 => I (i + 1) ρ2 S1
      | .ct ρ2 => I (i + 1) ρ2 S1
      | .bk ρ2 => Q (.nx ρ2) S1
      | .rt v => Q (.rt v) S1)
    (hq : ∀ ρ' S', I n ρ' S' → Q (.nx ρ') S') : ∀ (m k : Nat) (ρ : Env0') (S : Sto), k + m = n → I k ρ S → wp (forL t p ((List.range' k m).map fun (i : Nat) => .d (.int i)) ρ S) Q
  | 0, k, ρ, S, e, hi => by
    have : k = n := by omega
    subst this
    exact hq ρ S hi
  | m + 1, k, ρ, S, e, hi => by
    obtain ⟨ρ1, ea, h⟩ := hs k ρ S (by omega) hi
    rw [List.range'_succ, List.map_cons]
    unfold forL
    rw [ea]
    dsimp only
    rw [wp_bind]
    refine wp_mono h fun fl S1 z => ?_
    cases fl with
    | nx ρ2 => exact for_turnsS I n hs hq m (k + 1) ρ2 S1 (by omega) z
    | ct ρ2 => exact for_turnsS I n hs hq m (k + 1) ρ2 S1 (by omega) z
    | bk ρ2 => exact z
    | rt v => exact z
theorem for_rangeS {t : Tg} {p : Ms} {Q : Fl → Sto → Prop} {ρ : Env0'} {S : Sto} (I : Nat → Env0' → Sto → Prop) (n : Nat) (h0 : I 0 ρ S)
    (hs : ∀ i ρ S, i < n → I i ρ S → ∃ ρ1, asgT t (.d (.int i)) ρ = some ρ1 ∧ wp (p ρ1 S) fun fl S1 => match fl with
      | .nx ρ2 => I (i + 1) ρ2 S1
      | .ct ρ2 => I (i + 1) ρ2 S1
      | .bk ρ2 => Q (.nx ρ2) S1
      | .rt v => Q (.rt v) S1)
    (hq : ∀ ρ' S', I n ρ' S' → Q (.nx ρ') S') : wp (forL t p ((List.range n).map fun (i : Nat) => .d (.int i)) ρ S) Q := by
  rw [List.range_eq_range']
  exact for_turnsS I n hs hq n 0 ρ S (by omega) h0
theorem for_range {t : Tg} {p : Ms} {Q : Fl → Sto → Prop} {ρ : Env0'} {S : Sto} (I : Nat → Env0' → Prop) (n : Nat) (h0 : I 0 ρ)
    (hs : ∀ i ρ, i < n → I i ρ → ∃ ρ1, asgT t (.d (.int i)) ρ = some ρ1 ∧ wp (p ρ1 S) fun fl S1 => S1 = S ∧ ∃ ρ2, (fl = .nx ρ2 ∨ fl = .ct ρ2) ∧ I (i + 1) ρ2)
    (hq : ∀ ρ', I n ρ' → Q (.nx ρ') S) : wp (forL t p ((List.range n).map fun (i : Nat) => .d (.int i)) ρ S) Q := by
  refine for_rangeS (fun i ρ S' => S' = S ∧ I i ρ) n ⟨rfl, h0⟩ (fun i ρ S' hi h => ?_) fun ρ' S' h => ?_
  · obtain ⟨rfl, h⟩ := h
    obtain ⟨ρ1, e, w⟩ := hs i ρ hi h
    refine ⟨ρ1, e, wp_mono w fun fl S1 z => ?_⟩
    obtain ⟨rfl, ρ2, hf, i2⟩ := z
    rcases hf with rfl | rfl
    · exact ⟨rfl, i2⟩
    · exact ⟨rfl, i2⟩
  · obtain ⟨rfl, h⟩ := h
    exact hq ρ' h
/-- nothing is found -/
theorem for_none {β : Type} {t : Tg} {p : Ms} {S : Sto} {Q : Fl → Sto → Prop} (I : Env0' → Prop) (g : β → Xv) (l : List β) (ρ : Env0') (hi : I ρ)
    (hs : ∀ ρ x, x ∈ l → I ρ → ∃ ρ1, asgT t (g x) ρ = some ρ1 ∧ wp (p ρ1 S) fun fl S1 => S1 = S ∧ ∃ ρ2, (fl = .nx ρ2 ∨ fl = .ct ρ2) ∧ I ρ2)
    (hq : ∀ ρ', I ρ' → Q (.nx ρ') S) : wp (forL t p (l.map g) ρ S) Q :=
  for_fold (σ := Unit) (fun _ => I) g (fun _ _ => ()) l () ρ hi (fun _ ρ x hx h => hs ρ x hx h) hq
theorem w_trunc' {tr : Bool} {S : Sto} {d : D} {Q : Xv → Sto → Prop} (h : Q (.d d) S) : wp (trunc' tr S.length (.d d) S) Q := by
  cases tr
  · exact h
  · exact w_trunc h
theorem w_truncF {n : Nat} {x : Xv} {S : Sto} {Q : Xv → Sto → Prop} : wp (trunc' false n x S) Q = Q x S := rfl
/-- what was made behind a closed store is forgotten -/
theorem w_truncT {S T : Sto} {d : D} {n : Nat} {Q : Xv → Sto → Prop} (hn : n = S.length) (hc : S.all (clsO S.length) = true) (h : Q (.d d) S) : wp (trunc' true n (.d d) (S ++ T)) Q := by
  subst hn
  unfold trunc' trunc
  dsimp only
  rw [List.take_left, if_pos hc]
  exact h
end PB

namespace PB
open PySem PySem.Spec PyProof.Rows L2
structure Nc (h w : Nat) (d : D) : Prop where
  sh : d.showable = true
  nd : d.hasDict = false
  cl : d.canLay0 = true
  dp : d.depth ≤ h
  ln : d.shown.length ≤ w
theorem Nc.mono {h w h' w' : Nat} {d : D} (n : Nc h w d) (h1 : h ≤ h') (h2 : w ≤ w') : Nc h' w' d := ⟨n.sh, n.nd, n.cl, Nat.le_trans n.dp h1, Nat.le_trans n.ln h2⟩
theorem nc_none : Nc 0 5 .none := ⟨rfl, rfl, rfl, Nat.le_refl _, by decide⟩
theorem nc_bool (b : Bool) : Nc 0 5 (.bool b) := by
  cases b <;> exact ⟨rfl, rfl, rfl, Nat.le_refl _, by decide⟩
theorem nc_bit {b : Int} (h : b = 0 ∨ b = 1) : Nc 0 5 (.int b) := by
  rcases h with rfl | rfl <;> exact ⟨by decide, rfl, rfl, Nat.le_refl _, by decide⟩
theorem nc_dig {b : Int} (h0 : 0 ≤ b) (h : b ≤ 12) : Nc 0 5 (.int b) := by
  have : b = 0 ∨ b = 1 ∨ b = 2 ∨ b = 3 ∨ b = 4 ∨ b = 5 ∨ b = 6 ∨ b = 7 ∨ b = 8 ∨ b = 9 ∨ b = 10 ∨ b = 11 ∨ b = 12 := by omega
  rcases this with rfl | rfl | rfl | rfl | rfl | rfl | rfl | rfl | rfl | rfl | rfl | rfl | rfl <;> exact ⟨by decide, rfl, rfl, Nat.le_refl _, by decide⟩
theorem all_nc {h w : Nat} : ∀ {ds : List D}, (∀ d ∈ ds, Nc h w d) → PyData.showableAll ds = true ∧ PyData.hasDictAll ds = false ∧ PyData.canLayAll0 ds = true ∧ PyData.depthAll ds ≤ h ∧ ((PyData.shownAll ds).map (·.length)).sum ≤ ds.length * w ∧ (PyData.shownAll ds).length = ds.length
  | [], _ => ⟨rfl, rfl, rfl, Nat.zero_le _, by simp [PyData.shownAll], rfl⟩
  | d :: ds, hd => by
    have n := hd d (List.mem_cons_self ..)
    obtain ⟨a, b, c, e, f, g⟩ := all_nc fun x hx => hd x (List.mem_cons_of_mem _ hx)
    refine ⟨?_, ?_, ?_, ?_, ?_, ?_⟩
    · unfold PyData.showableAll; rw [n.sh, a]; rfl
    · unfold PyData.hasDictAll; rw [n.nd, b]; rfl
    · unfold PyData.canLayAll0; rw [n.cl, c]; rfl
    · unfold PyData.depthAll; exact Nat.max_le.mpr ⟨n.dp, e⟩
    · unfold PyData.shownAll
      rw [List.map_cons, List.sum_cons, List.length_cons, Nat.succ_mul]
      have := n.ln
      omega
    · unfold PyData.shownAll; rw [List.length_cons, List.length_cons, g]
theorem nc_tup {h w n : Nat} {ds : List D} (hd : ∀ d ∈ ds, Nc h w d) (hl : ds.length ≤ n) : Nc (h + 1) (n * (w + 2) + 3) (.tuple ds) := by
  obtain ⟨a, b, c, e, f, g⟩ := all_nc hd
  refine ⟨by unfold PyData.showable; exact a, by unfold PyData.hasDict; exact b, by unfold PyData.canLay0; exact c, by unfold PyData.depth; omega, ?_⟩
  unfold PyData.shown
  refine Nat.le_trans (tupleText_len_le _) ?_
  rw [g, Nat.mul_add]
  have : ds.length * w ≤ n * w := Nat.mul_le_mul_right _ hl
  omega
theorem nc_lst {h w n : Nat} {ds : List D} (hd : ∀ d ∈ ds, Nc h w d) (hl : ds.length ≤ n) : Nc (h + 1) (n * (w + 2) + 3) (.list ds) := by
  obtain ⟨a, b, c, e, f, g⟩ := all_nc hd
  refine ⟨by unfold PyData.showable; exact a, by unfold PyData.hasDict; exact b, by unfold PyData.canLay0; exact c, by unfold PyData.depth; omega, ?_⟩
  unfold PyData.shown
  refine Nat.le_trans (listText_len_le _) ?_
  rw [g, Nat.mul_add]
  have : ds.length * w ≤ n * w := Nat.mul_le_mul_right _ hl
  omega
theorem Nc.shD {h w : Nat} {d : D} (n : Nc h w d) (hh : h ≤ 64) : shD d = true := by
  unfold PB.shD SeqAt.shaped
  rw [n.cl, decide_eq_true (Nat.le_trans n.dp hh)]
  rfl
theorem wp_repr {h w : Nat} {d : D} {S : Sto} {Q : Xv → Sto → Prop} (n : Nc h w d) (hh : h ≤ 64) (hw : w ≤ 16777216) : wp (fRepr [.d d] S) Q = Q (.d (.str d.shown)) S := by
  have e : (d.showable && !d.hasDict && decide (d.depth ≤ 64) && decide (d.shown.length ≤ sizeLine)) = true := by
    rw [n.sh, n.nd, decide_eq_true (Nat.le_trans n.dp hh), decide_eq_true (show d.shown.length ≤ sizeLine from by rw [sizeLine_eq]; exact Nat.le_trans n.ln hw)]; rfl
  unfold fRepr datOf
  dsimp only
  rw [e]
  rfl
theorem str_eq {x : Str} {S : Sto} : pCmpB .eq (.d (.str x)) (.d (.str x)) S = some true := by
  unfold pCmpB pEq datOf
  simp [bothStr, PyData.eqv]
mutual
/-- ints, texts, tuples, lists: no truth values beside numbers -/
def pln : D → Bool
  | .int _ => true
  | .str _ => true
  | .none => true
  | .tuple ds => plnL ds
  | .list ds => plnL ds
  | _ => false
def plnL : List D → Bool
  | [] => true
  | d :: ds => pln d && plnL ds
end
mutual
theorem eqv_pln : ∀ (a b : D), pln a = true → pln b = true → (PyData.eqv a b = true ↔ a = b)
  | .int i, b, _, hb => by cases b <;> simp_all [PyData.eqv, pln]
  | .str i, b, _, hb => by cases b <;> simp_all [PyData.eqv, pln]
  | .none, b, _, hb => by cases b <;> simp_all [PyData.eqv, pln]
  | .tuple xs, b, ha, hb => by
    cases b with
    | tuple ys =>
      simp only [pln] at ha hb
      simp only [PyData.eqv, PyData.tuple.injEq]
      exact eqvL_pln xs ys ha hb
    | _ => simp_all [PyData.eqv, pln]
  | .list xs, b, ha, hb => by
    cases b with
    | list ys =>
      simp only [pln] at ha hb
      simp only [PyData.eqv, PyData.list.injEq]
      exact eqvL_pln xs ys ha hb
    | _ => simp_all [PyData.eqv, pln]
  | .bool _, _, h, _ => by simp [pln] at h
  | .dict _, _, h, _ => by simp [pln] at h
theorem eqvL_pln : ∀ (a b : List D), plnL a = true → plnL b = true → (PyData.eqvAll a b = true ↔ a = b)
  | [], [], _, _ => by simp [PyData.eqvAll]
  | [], _ :: _, _, _ => by simp [PyData.eqvAll]
  | _ :: _, [], _, _ => by simp [PyData.eqvAll]
  | x :: xs, y :: ys, ha, hb => by
    simp only [plnL, Bool.and_eq_true] at ha hb
    simp only [PyData.eqvAll, Bool.and_eq_true, List.cons.injEq]
    rw [eqv_pln x y ha.1 hb.1, eqvL_pln xs ys ha.2 hb.2]
end
theorem pln_ints (bs : List Int) : plnL (bs.map .int) = true := by
  induction bs with
  | nil => rfl
  | cons b bs ih => rw [List.map_cons, plnL, ih]; rfl
theorem pln_row (bs : List Int) : pln (rowD bs) = true := by unfold rowD; rw [pln]; exact pln_ints bs
theorem pln_all {ds : List D} (h : ∀ d ∈ ds, pln d = true) : plnL ds = true := by
  induction ds with
  | nil => rfl
  | cons d ds ih => rw [plnL, h d (List.mem_cons_self ..), ih fun x hx => h x (List.mem_cons_of_mem _ hx)]; rfl
theorem ints_inj {a b : List Int} (h : a.map PyData.int = b.map PyData.int) : a = b := by
  induction a generalizing b with
  | nil => cases b with
    | nil => rfl
    | cons y ys => cases h
  | cons x xs ih => cases b with
    | nil => cases h
    | cons y ys =>
      simp only [List.map_cons, List.cons.injEq, PyData.int.injEq] at h
      rw [h.1, ih h.2]
theorem row_inj {a b : List Int} (h : rowD a = rowD b) : a = b := by
  unfold rowD at h; injection h with h; exact ints_inj h
theorem eqv_rows (a b : List Int) : PyData.eqv (rowD a) (rowD b) = (b == a) := by
  have h := eqv_pln (rowD a) (rowD b) (pln_row a) (pln_row b)
  cases e : PyData.eqv (rowD a) (rowD b)
  · refine (beq_eq_false_iff_ne.mpr fun z => ?_).symm
    rw [h.mpr (by rw [z])] at e
    cases e
  · exact (beq_iff_eq.mpr (row_inj (h.mp e)).symm).symm
theorem in_rows {rows : List (List Int)} {r : List Int} : (((rows.map rowD).any fun z => PyData.eqv z (rowD r))) = rows.contains r := by
  induction rows with
  | nil => rfl
  | cons x xs ih => rw [List.map_cons, List.any_cons, ih, List.contains_cons, eqv_rows]
end PB

namespace PB
open PySem PySem.Spec PyProof.Rows L2
def intsX (ns : List Int) : List Xv := ns.map fun n => .d (.int n)
structure Bs where
  sc : List Int
  cs : List Int
  ls : List Int
  at_ : Nat
def kv3 (a b c : Xv) : List (Key × Xv) := [(.inr "cells", a), (.inr "lefts", b), (.inr "at", c)]
theorem ne_cl : decide ((Sum.inr ("cells" : Str) : Key) = Sum.inr ("lefts" : Str)) = false := by decide +kernel
theorem ne_ca : decide ((Sum.inr ("cells" : Str) : Key) = Sum.inr ("at" : Str)) = false := by decide +kernel
theorem ne_la : decide ((Sum.inr ("lefts" : Str) : Key) = Sum.inr ("at" : Str)) = false := by decide +kernel
theorem kv3_all (a b c : Xv) : kvAll [.inr "cells", .inr "lefts", .inr "at"] [a, b, c] [] = kv3 a b c := by
  unfold kv3
  simp only [kvAll, kvPut, List.any_nil, List.any_cons, Bool.false_eq_true, if_false, List.nil_append, List.cons_append, ne_cl, ne_ca, ne_la, Bool.or_false]
theorem kv3_cells (a b c : Xv) : kvGet (kv3 a b c) (.inr "cells") = some a := by
  unfold kv3 kvGet
  simp only [List.find?_cons, decide_true, Option.map_some]
theorem kv3_lefts (a b c : Xv) : kvGet (kv3 a b c) (.inr "lefts") = some b := by
  unfold kv3 kvGet
  simp only [List.find?_cons, decide_true, ne_cl, Option.map_some]
theorem kv3_at (a b c : Xv) : kvGet (kv3 a b c) (.inr "at") = some c := by
  unfold kv3 kvGet
  simp only [List.find?_cons, decide_true, ne_ca, ne_la, Option.map_some]
theorem kv3_put (a b c d : Xv) : kvPut (kv3 a b c) (.inr "at") d = kv3 a b d := by
  unfold kv3 kvPut
  have h1 : ¬ ((Sum.inr ("cells" : Str) : Key) = Sum.inr ("at" : Str)) := of_decide_eq_false ne_ca
  have h2 : ¬ ((Sum.inr ("lefts" : Str) : Key) = Sum.inr ("at" : Str)) := of_decide_eq_false ne_la
  simp only [List.any_cons, decide_true, Bool.true_or, Bool.or_true, if_true, List.map_cons, List.map_nil, if_neg h1, if_neg h2]
def Bs.sto (b : Bs) : Sto := [.rol (intsX b.sc), .lst (intsX b.ls), .dct (kv3 (.d (.list (b.cs.map .int))) (.r 1) (.d (.int b.at_)))]
structure Bs.Ok (b : Bs) (n : Nat) : Prop where
  le : b.ls.length = b.cs.length
  c1 : 1 ≤ b.cs.length
  c2 : b.cs.length ≤ 63
  at_ : b.at_ ≤ n
theorem Bs.Ok.mono {b : Bs} {n m : Nat} (h : b.Ok n) (l : n ≤ m) : b.Ok m := ⟨h.le, h.c1, h.c2, Nat.le_trans h.at_ l⟩
def clT (T : Sto) : Bool := T.all (clsO (3 + T.length))
theorem sto_len {b : Bs} {T : Sto} : (b.sto ++ T).length = 3 + T.length := by simp [Bs.sto]; omega
theorem allD_ints : ∀ ns : List Int, allD (ns.map fun n => Xv.d (.int n)) = some (ns.map .int)
  | [] => rfl
  | n :: ns => by rw [List.map_cons, allD, allD_ints ns]; rfl
theorem cls_ints {n : Nat} (ns : List Int) : (intsX ns).all (clsX n) = true := by
  simp [intsX, clsX]
theorem cl_sto {b : Bs} {T : Sto} (h : clT T = true) : (b.sto ++ T).all (clsO (b.sto ++ T).length) = true := by
  rw [sto_len, List.all_append, Bool.and_eq_true]
  refine ⟨?_, h⟩
  have : decide (1 < 3 + T.length) = true := decide_eq_true (by omega)
  simp only [Bs.sto, kv3, List.all_cons, List.all_nil, clsO, cls_ints, clsX, this]
  rfl
theorem get_2 {b : Bs} {T : Sto} : (b.sto ++ T)[2]? = some (.dct (kv3 (.d (.list (b.cs.map .int))) (.r 1) (.d (.int b.at_)))) := rfl
theorem get_1 {b : Bs} {T : Sto} : (b.sto ++ T)[1]? = some (.lst (intsX b.ls)) := rfl
section
variable {b : Bs} {T : Sto} {Q : Xv → Sto → Prop} {x y z : Xv}
theorem ix_at {S : Sto} (h : S[2]? = some (.dct (kv3 x y z))) : wp (pIx (.r 2) (.d (.str "at")) S) Q = Q z S := by
  unfold pIx
  simp only [h, keyD, kv3_at]
  rfl
theorem ix_cells {S : Sto} (h : S[2]? = some (.dct (kv3 x y z))) : wp (pIx (.r 2) (.d (.str "cells")) S) Q = Q x S := by
  unfold pIx
  simp only [h, keyD, kv3_cells]
  rfl
theorem ix_lefts {S : Sto} (h : S[2]? = some (.dct (kv3 x y z))) : wp (pIx (.r 2) (.d (.str "lefts")) S) Q = Q y S := by
  unfold pIx
  simp only [h, keyD, kv3_lefts]
  rfl
theorem ix_ref {S : Sto} {n : Nat} {xs : List Xv} {i : Int} {v : Xv} (h : S[n]? = some (.lst xs)) (e : atI xs i = some v) : wp (pIx (.r n) (.d (.int i)) S) Q = Q v S := by
  unfold pIx
  simp only [h, e]
  rfl
theorem set_at {S : Sto} {v : Xv} (h : S[2]? = some (.dct (kv3 x y z))) : setI (.r 2) (.d (.str "at")) v S = some (S.set 2 (.dct (kv3 x y v))) := by
  unfold setI
  simp only [h, keyD, kv3_put]
  rfl
theorem set_ref {S : Sto} {n : Nat} {xs : List Xv} {i : Int} {v : Xv} {j : Nat} (h : S[n]? = some (.lst xs)) (e : ixN xs.length i = some j) : setI (.r n) (.d (.int i)) v S = some (S.set n (.lst (xs.set j v))) := by
  unfold setI
  simp only [h, e]
theorem sto_at {i : Int} : (b.sto ++ T).set 2 (.dct (kv3 (.d (.list (b.cs.map .int))) (.r 1) (.d (.int i)))) = [.rol (intsX b.sc), .lst (intsX b.ls), .dct (kv3 (.d (.list (b.cs.map .int))) (.r 1) (.d (.int i)))] ++ T := rfl
end
theorem get_T {b : Bs} {T : Sto} {i : Nat} : (b.sto ++ T)[3 + i]? = T[i]? := by
  rw [List.getElem?_append_right (by simp [Bs.sto])]
  simp [Bs.sto]
theorem lc_inv {β : Type} {t : Tg} {pt : Env0' → Sto → R Bool} {pe : Me} {ρ : Env0'} {Q : List D → Sto → Prop} (g : β → Xv) (I : List D → Nat → Sto → Prop) (l : List β)
    (hs : ∀ acc j S x, l[j]? = some x → I acc j S → ∃ ρ1, asgT t (g x) ρ = some ρ1 ∧ wp (pt ρ1 S) fun b S1 => if b = true then wp (pe ρ1 S1) fun y S2 => ∃ d, y = .d d ∧ I (acc ++ [d]) (j + 1) S2 else I acc (j + 1) S1)
    (hq : ∀ acc S, I acc l.length S → Q acc S) : ∀ (l' : List β) (k : Nat) (acc : List D) (S : Sto), l.drop k = l' → k ≤ l.length → I acc k S → wp (lcLoop t pt pe ρ (l'.map g) acc S) Q
  | [], k, acc, S, e, hk, hi => by
    have : k = l.length := by
      have := congrArg List.length e
      rw [List.length_drop, List.length_nil] at this
      omega
    subst this
    exact hq acc S hi
  | x :: l', k, acc, S, e, hk, hi => by
    have hx : l[k]? = some x := by
      have := congrArg (fun z => z[0]?) e
      simpa [List.getElem?_drop] using this
    have hk2 : k < l.length := (List.getElem?_eq_some_iff.mp hx).1
    have e2 : l.drop (k + 1) = l' := by
      have := congrArg List.tail e
      simpa [List.tail_drop] using this
    obtain ⟨ρ1, ea, h⟩ := hs acc k S x hx hi
    rw [List.map_cons]
    unfold lcLoop
    rw [ea]
    dsimp only
    rw [wp_bind]
    refine wp_mono h fun b S1 z => ?_
    cases b with
    | true =>
      rw [if_pos rfl] at z ⊢
      rw [wp_bind]
      refine wp_mono z fun y S2 z2 => ?_
      obtain ⟨d, rfl, i2⟩ := z2
      exact lc_inv g I l hs hq l' (k + 1) _ _ e2 (by omega) i2
    | false =>
      rw [if_neg Bool.false_ne_true] at z ⊢
      exact lc_inv g I l hs hq l' (k + 1) _ _ e2 (by omega) z
/-- without a condition, each item by a fact -/
theorem lc_seq {β γ : Type} {t : Tg} {pe : Me} {F : Fns} {ρ : Env0'} {S : Sto} {Q : List D → Sto → Prop} (g : β → Xv) (d : γ → D) (P : Nat → γ → Prop) (J : Nat → Sto → Prop) (l : List β) (h0 : J 0 S)
    (hs : ∀ j S x, l[j]? = some x → J j S → ∃ ρ1, asgT t (g x) ρ = some ρ1 ∧ wp (pe ρ1 S) fun y S2 => ∃ c, y = .d (d c) ∧ P j c ∧ J (j + 1) S2)
    (hq : ∀ (cs : List γ) S, cs.length = l.length → (∀ j c, cs[j]? = some c → P j c) → J l.length S → Q (cs.map d) S) : wp (lcLoop t (denC F .no) pe ρ (l.map g) [] S) Q := by
  refine lc_inv g (fun acc m S => ∃ cs : List γ, acc = cs.map d ∧ cs.length = m ∧ (∀ j c, cs[j]? = some c → P j c) ∧ J m S) l (fun acc m S x hx h => ?_) (fun acc S h => ?_) l 0 [] S rfl (Nat.zero_le _) ⟨[], rfl, rfl, by simp, h0⟩
  · obtain ⟨cs, rfl, e, hp, hj⟩ := h
    obtain ⟨ρ1, ea, h⟩ := hs m S x hx hj
    refine ⟨ρ1, ea, ?_⟩
    rw [wc_no, if_pos rfl]
    refine wp_mono h fun y S2 z => ?_
    obtain ⟨c, rfl, pc, j⟩ := z
    refine ⟨d c, rfl, cs ++ [c], by simp, by simp [e], fun i x hx => ?_, j⟩
    rcases Nat.lt_or_ge i cs.length with hi | hi
    · rw [List.getElem?_append_left hi] at hx; exact hp i x hx
    · rw [List.getElem?_append_right hi] at hx
      have : i - cs.length = 0 := by
        rcases Nat.eq_zero_or_pos (i - cs.length) with h | h
        · exact h
        · rw [List.getElem?_eq_none (by rw [List.length_singleton]; exact h)] at hx; cases hx
      rw [this] at hx
      cases hx
      have : i = m := by omega
      rw [this]; exact pc
  · obtain ⟨cs, rfl, e, hp, hj⟩ := h
    exact hq cs S e hp hj
/-- a condition that draws: a part of the list -/
theorem lc_part {β : Type} {t : Tg} {pt : Env0' → Sto → R Bool} {pe : Me} {ρ : Env0'} {S : Sto} {Q : List D → Sto → Prop} (g : β → Xv) (d : β → D) (J : Nat → Sto → Prop) (l : List β) (h0 : J 0 S)
    (hs : ∀ j S x, l[j]? = some x → J j S → ∃ ρ1, asgT t (g x) ρ = some ρ1 ∧ wp (pt ρ1 S) fun b S1 => J (j + 1) S1 ∧ wp (pe ρ1 S1) fun y S2 => y = .d (d x) ∧ S2 = S1)
    (hq : ∀ (cs : List β) S, cs.Sublist l → J l.length S → Q (cs.map d) S) : wp (lcLoop t pt pe ρ (l.map g) [] S) Q := by
  refine lc_inv g (fun acc m S => ∃ cs : List β, acc = cs.map d ∧ cs.Sublist (l.take m) ∧ J m S) l (fun acc m S x hx h => ?_) (fun acc S h => ?_) l 0 [] S rfl (Nat.zero_le _) ⟨[], rfl, List.nil_sublist _, h0⟩
  · obtain ⟨cs, rfl, e, hj⟩ := h
    obtain ⟨ρ1, ea, h⟩ := hs m S x hx hj
    refine ⟨ρ1, ea, ?_⟩
    have ht : l.take (m + 1) = l.take m ++ [x] := by rw [List.take_succ, hx]; rfl
    refine wp_mono h fun b S1 z => ?_
    cases b with
    | true =>
      rw [if_pos rfl]
      refine wp_mono z.2 fun y S2 z2 => ?_
      obtain ⟨rfl, rfl⟩ := z2
      exact ⟨_, rfl, cs ++ [x], by simp, by rw [ht]; exact e.append (List.Sublist.refl _), z.1⟩
    | false =>
      rw [if_neg Bool.false_ne_true]
      exact ⟨cs, rfl, by rw [ht]; exact e.trans (List.sublist_append_left ..), z.1⟩
  · obtain ⟨cs, rfl, e, hj⟩ := h
    rw [List.take_length] at e
    exact hq cs S e hj
end PB

namespace PB
open PySem PySem.Spec PyProof.Rows L2
open PBo (Ord ordD ordL ordInt ordNat)
def ltL : List Int → List Int → Bool
  | [], [] => false
  | [], _ :: _ => true
  | _ :: _, [] => false
  | a :: as, b :: bs => if a = b then ltL as bs else decide (a < b)
theorem ltL_cons {a b : Int} {as bs : List Int} : ltL (a :: as) (b :: bs) = if a = b then ltL as bs else decide (a < b) := by rw [ltL]
def leL (a b : List Int) : Bool := !ltL b a
theorem eqv_int {a b : Int} : PyData.eqv (.int a) (.int b) = (a == b) := by simp [PyData.eqv]
theorem ord_ge : ∀ a b : List Int, ordL .ge (a.map .int) (b.map .int) = some (!ltL a b)
  | [], [] => rfl
  | [], _ :: _ => rfl
  | _ :: _, [] => rfl
  | a :: as, b :: bs => by
    rw [List.map_cons, List.map_cons, ordL, ord_ge as bs]
    dsimp only
    rw [eqv_int]
    rw [ltL_cons]
    by_cases h : a = b
    · rw [if_pos (by simpa using h), if_pos h]
    · rw [if_neg (by simpa using h), if_neg h]
      show some (decide (b ≤ a)) = _
      by_cases h2 : a < b
      · simp [h2, Int.not_le.mpr h2]
      · simp [h2, Int.not_lt.mp h2]
theorem ltL_irr : ∀ a : List Int, ltL a a = false
  | [] => rfl
  | a :: as => by rw [ltL_cons, if_pos rfl]; exact ltL_irr as
theorem ltL_tri : ∀ {a b : List Int}, ltL b a = false → a ≠ b → ltL a b = true
  | [], [], _, h => absurd rfl h
  | [], _ :: _, _, _ => rfl
  | _ :: _, [], h, _ => by cases h
  | a :: as, b :: bs, h, hne => by
    rw [ltL_cons] at h ⊢
    by_cases e : a = b
    · subst e
      rw [if_pos rfl] at h ⊢
      exact ltL_tri h fun z => hne (by rw [z])
    · rw [if_neg (Ne.symm e)] at h
      rw [if_neg e]
      have := of_decide_eq_false h
      exact decide_eq_true (by omega)
theorem ltL_asym : ∀ {a b : List Int}, ltL a b = true → ltL b a = false
  | [], [], h => by cases h
  | [], _ :: _, _ => rfl
  | _ :: _, [], h => by cases h
  | a :: as, b :: bs, h => by
    rw [ltL_cons] at h ⊢
    by_cases e : a = b
    · subst e
      rw [if_pos rfl] at h ⊢
      exact ltL_asym h
    · rw [if_neg e] at h
      rw [if_neg (Ne.symm e)]
      have := of_decide_eq_true h
      exact decide_eq_false (by omega)
theorem ltL_trans : ∀ {a b c : List Int}, ltL a b = true → ltL b c = true → ltL a c = true
  | [], [], _, h, _ => by cases h
  | _ :: _, [], _, h, _ => by cases h
  | [], _ :: _, [], _, h => by cases h
  | [], _ :: _, _ :: _, _, _ => rfl
  | _ :: _, _ :: _, [], _, h => by cases h
  | a :: as, b :: bs, c :: cs, h1, h2 => by
    rw [ltL_cons] at h1 h2 ⊢
    by_cases e1 : a = b
    · subst e1
      rw [if_pos rfl] at h1
      by_cases e2 : a = c
      · rw [if_pos e2] at h2 ⊢
        exact ltL_trans h1 h2
      · rw [if_neg e2] at h2 ⊢
        exact h2
    · rw [if_neg e1] at h1
      have q1 := of_decide_eq_true h1
      by_cases e2 : b = c
      · subst e2
        rw [if_neg e1]
        exact h1
      · rw [if_neg e2] at h2
        have q2 := of_decide_eq_true h2
        rw [if_neg (by omega)]
        exact decide_eq_true (by omega)
theorem leL_trans (a b c : List Int) (h1 : leL a b = true) (h2 : leL b c = true) : leL a c = true := by
  unfold leL at *
  rw [Bool.not_eq_true'] at *
  cases h : ltL c a with
  | false => rfl
  | true =>
    by_cases e : a = b
    · subst e; rw [h] at h2; cases h2
    · have q := ltL_tri h1 e
      have := ltL_trans h q
      rw [h2] at this
      cases this
theorem leL_total (a b : List Int) : (leL a b || leL b a) = true := by
  unfold leL
  cases h : ltL b a with
  | false => rfl
  | true => rw [ltL_asym h]; rfl
theorem alike_ints : ∀ a b : List Int, PySem.W.alikeAll (a.map .int) (b.map .int) = true
  | [], _ => by rw [List.map_nil, PySem.W.alikeAll]
  | _ :: _, [] => by rw [List.map_nil, List.map_cons, PySem.W.alikeAll]
  | a :: as, b :: bs => by rw [List.map_cons, List.map_cons, PySem.W.alikeAll, alike_ints as bs]; rfl
theorem dl_rows : ∀ a b : List Int, PySem.W.dataLt (rowD a) (rowD b) = ltL a b
  | a, b => by
    unfold rowD
    rw [PySem.W.dataLt_tuple]
    induction a generalizing b with
    | nil => cases b with
      | nil => decide
      | cons y ys =>
        rw [List.map_nil, List.map_cons]
        show _ = true
        simp only [PySem.W.keyToksAll]
        rfl
    | cons x xs ih => cases b with
      | nil =>
        rw [List.map_nil, List.map_cons]
        show _ = false
        simp only [PySem.W.keyToksAll]
        rfl
      | cons y ys =>
        rw [List.map_cons, List.map_cons]
        rw [ltL_cons]
        by_cases e : x = y
        · subst e
          rw [if_pos rfl, PySem.W.dataLt_all_yes rfl (by simp [PyData.eqv])]
          exact ih ys
        · rw [if_neg e, PySem.W.dataLt_all_no rfl (by simpa [PyData.eqv] using e)]
          exact PySem.W.dataLt_int x y
theorem leD_rows (a b : List Int) : leD (rowD a) (rowD b) = leL a b := by
  show (!PySem.W.dataLt (rowD b) (rowD a)) = _
  rw [dl_rows]
  rfl
def sortL (rows : List (List Int)) : List (List Int) := rows.mergeSort leL
theorem sortD_rows (rows : List (List Int)) : sortD (rows.map rowD) = (sortL rows).map rowD := by
  unfold sortD sortL
  rw [List.map_mergeSort]
  intro a _ b _
  exact (leD_rows a b).symm
theorem sortL_perm (rows : List (List Int)) : (sortL rows).Perm rows := List.mergeSort_perm ..
/-- ascending, each once -/
def Asc (rows : List (List Int)) : Prop := rows.Pairwise fun a b => ltL a b = true
theorem sortL_asc {rows : List (List Int)} (h : rows.Nodup) : Asc (sortL rows) := by
  have h1 : (sortL rows).Pairwise fun a b => leL a b = true := List.pairwise_mergeSort leL_trans leL_total rows
  have h2 : (sortL rows).Nodup := (sortL_perm rows).nodup_iff.mpr h
  refine List.Pairwise.imp₂ ?_ h1 h2
  intro a b p q
  unfold leL at p
  rw [Bool.not_eq_true'] at p
  exact ltL_tri p q
theorem asc_nodup {rows : List (List Int)} (h : Asc rows) : rows.Nodup := List.Pairwise.imp (fun {a b} h z => by subst z; rw [ltL_irr] at h; cases h) h
theorem cl_ints : ∀ l : List Int, PyData.canLayAll0 (l.map .int) = true
  | [] => rfl
  | x :: l => by rw [List.map_cons, PyData.canLayAll0, cl_ints l]; rfl
theorem dp_ints : ∀ l : List Int, PyData.depthAll (l.map .int) = 0
  | [] => rfl
  | x :: l => by rw [List.map_cons, PyData.depthAll, dp_ints l]; rfl
theorem cl_row (l : List Int) : (rowD l).canLay0 = true := by unfold rowD; rw [PyData.canLay0]; exact cl_ints l
theorem dp_row (l : List Int) : (rowD l).depth = 1 := by unfold rowD; rw [PyData.depth, dp_ints]
theorem cl_rows : ∀ l : List (List Int), PyData.canLayAll0 (l.map rowD) = true
  | [] => rfl
  | x :: l => by rw [List.map_cons, PyData.canLayAll0, cl_rows l, cl_row]; rfl
theorem dp_rows : ∀ l : List (List Int), PyData.depthAll (l.map rowD) ≤ 1
  | [] => Nat.zero_le _
  | x :: l => by rw [List.map_cons, PyData.depthAll, dp_row]; exact Nat.max_le.mpr ⟨Nat.le_refl _, dp_rows l⟩
theorem sh_row (l : List Int) : shD (rowD l) = true := by unfold shD SeqAt.shaped; rw [cl_row, dp_row]; rfl
theorem sh_rows (l : List (List Int)) : shD (.tuple (l.map rowD)) = true := by
  unfold shD SeqAt.shaped
  rw [PyData.canLay0, cl_rows, PyData.depth, decide_eq_true (by have := dp_rows l; omega)]; rfl
theorem sh_rowsL (l : List (List Int)) : shD (.list (l.map rowD)) = true := by
  unfold shD SeqAt.shaped
  rw [PyData.canLay0, cl_rows, PyData.depth, decide_eq_true (by have := dp_rows l; omega)]; rfl
theorem cb_in {r : List Int} {rows : List (List Int)} {S : Sto} : pCmpB .isin (.d (rowD r)) (.d (.tuple (rows.map rowD))) S = some (rows.contains r) := by
  unfold pCmpB pIn
  simp only [datOf, sh_row, sh_rows, Bool.and_self, if_true, in_rows]
theorem cb_nin {r : List Int} {rows : List (List Int)} {S : Sto} : pCmpB .notin (.d (rowD r)) (.d (.tuple (rows.map rowD))) S = some (!rows.contains r) := by
  unfold pCmpB pIn
  simp only [datOf, sh_row, sh_rows, Bool.and_self, if_true, in_rows, Option.map_some]
theorem cb_rge {a b : List Int} {S : Sto} : pCmpB (.ord .ge) (.d (rowD a)) (.d (rowD b)) S = some (!ltL a b) := by
  unfold pCmpB pOrd
  simp only [datOf, sh_row, Bool.and_self, if_true]
  unfold rowD
  rw [ordD]
  exact ord_ge a b
/-- rows that are not empty can be sorted -/
theorem sortB_rows {rows : List (List Int)} (h : ∀ r ∈ rows, r ≠ []) : sortB (rows.map rowD) = true := by
  unfold sortB
  simp only [Bool.and_eq_true, Bool.or_eq_true, List.all_eq_true]
  have hd : ∀ d ∈ rows.map rowD, ∃ r ∈ rows, d = rowD r := fun d hd => by
    obtain ⟨r, hr, e⟩ := List.mem_map.mp hd
    exact ⟨r, hr, e.symm⟩
  refine ⟨⟨fun d h1 d' h2 => ?_, .inl fun d h1 => ?_⟩, fun d h1 => ?_⟩
  · obtain ⟨r, hr, rfl⟩ := hd d h1
    obtain ⟨q, hq, rfl⟩ := hd d' h2
    unfold rowD
    rw [PySem.W.alike]
    exact alike_ints r q
  · obtain ⟨r, hr, rfl⟩ := hd d h1
    have := h r hr
    cases r with
    | nil => exact absurd rfl this
    | cons x xs => rfl
  · obtain ⟨r, hr, rfl⟩ := hd d h1
    rw [decide_eq_true_eq]
    unfold rowD
    have : ∀ l : List Int, PyData.depthAll (l.map .int) = 0 := fun l => by
      induction l with
      | nil => rfl
      | cons x xs ih => rw [List.map_cons, PyData.depthAll, ih]; rfl
    rw [PyData.depth, this]
    decide
end PB

namespace K03
open PB PySem PySem.Spec PyProof.Rows L2
def top (i : Nat) : Stmt := PySem.Challenge.pw_sixgates_k03_ties_kept_by_gates_of_four.main.body.getD i (.Pass ⟨0, 0, 0, 0⟩)
def gt_0 : List (Str × Gk) := [("law", .fn 0 1), ("range", .blt), ("_law_like", .fn 1 2), ("keeps", .fn 2 2), ("tuple", .blt), ("_law_rows", .fn 3 1), ("_law_any_gate", .fn 4 2), ("_law_broken", .fn 5 2), ("sorted", .blt), ("_law_shuffled", .fn 6 2), ("broken_rows", .fn 7 2), ("_law_tie", .fn 8 3), ("_law_values", .fn 9 2), ("_law_begin", .fn 10 1), ("repr", .blt), ("keeps_so", .fn 11 2), ("need_gate", .fn 12 1), ("need_tie", .fn 13 1), ("_law_of", .fn 14 2), ("_law_told_gates", .fn 15 0), ("_law_draw", .fn 16 2), ("_law_gate", .fn 17 3), ("_law_choices", .fn 18 2), ("_law_put", .fn 19 2), ("len", .blt), ("list", .blt), ("broken_so", .fn 20 2), ("wrong_gate", .fn 21 1), ("wrong_tie", .fn 22 1), ("int", .blt)]
def gt_1 : List (Str × Gk) := [("_law_mixed", .fn 23 2), ("_law_worth", .fn 24 2), ("choices_of", .fn 25 2), ("put_so", .fn 26 2), ("enumerate", .blt), ("is_value", .fn 27 1), ("isinstance", .blt), ("is_number", .fn 28 3), ("MOST_INPUTS", .cst (.int 4)), ("is_values", .fn 29 2), ("MOST_PLACES", .cst (.int 4)), ("zip", .blt), ("worth_so", .fn 30 2), ("is_whole", .fn 31 1), ("all", .blt), ("number_of", .fn 32 1), ("bool", .blt)]
def gt : List (Str × Gk) := gt_0 ++ (gt_1)
/-- law -/
def d_0 : Def' := ⟨13, 1, false, (.cons (.set (.nm 1) (.call 13 10 (.cons (.var 0) .nil))) (.cons (.for (.nm 2) (.rng1 1 (.cons (.cst (.int 2)) .nil)) (.cons (.set (.nm 3) (.tup (.cons (.cst (.int 4)) (.cons (.call 12 9 (.cons (.var 1) (.cons (.cst (.int 16)) .nil))) .nil)))) (.cons (.set (.tp [10, 11]) (.call 11 8 (.cons (.var 1) (.cons (.cst (.int 1)) (.cons (.cst (.int 4)) .nil))))) (.cons (.set (.nm 4) (.tup (.cons (.var 10) (.cons (.bi 4 .tup (.cons (.bi 8 .srt (.cons (.sl (.call 9 6 (.cons (.var 1) (.cons (.var 11) .nil))) .no (.yes (.cst (.int 5)))) .nil)) .nil)) .nil)))) (.cons (.set (.nm 5) (.call 7 5 (.cons (.var 3) (.cons (.var 4) .nil)))) (.cons (.ife (.not (.call 2 1 (.cons (.lst (.cons (.call 3 2 (.cons (.var 3) (.cons (.var 4) .nil))) (.cons (.call 10 7 (.cons (.var 3) (.cons (.var 4) .nil))) .nil))) (.cons (.lst (.cons (.isN (.var 5)) (.cons (.var 5) .nil))) .nil)))) (.cons (.ret (.cst (.bool false))) .nil) .nil) (.cons (.set (.nm 6) (.tup (.cons (.var 10) (.cons (.bi 4 .tup (.cons (.bi 8 .srt (.cons (.sl (.call 9 6 (.cons (.var 1) (.cons (.call 5 3 (.cons (.var 10) .nil)) .nil))) .no (.yes (.cst (.int 4)))) .nil)) .nil)) .nil)))) (.cons (.set (.nm 7) (.tup (.cons (.var 10) (.cons (.bi 4 .tup (.cons (.lc false [12] (.nm 12) (.seq (.ix (.var 4) (.cst (.int 1)))) (.yes (.cmp .isin (.var 12) (.ix (.var 6) (.cst (.int 1))))) (.var 12)) .nil)) .nil)))) (.cons (.ife (.and (.isN (.var 5)) (.and (.isN (.call 7 5 (.cons (.var 3) (.cons (.var 6) .nil)))) (.not (.call 3 2 (.cons (.var 3) (.cons (.var 7) .nil)))))) (.cons (.ret (.cst (.bool false))) .nil) .nil) (.cons (.set (.nm 8) (.call 6 4 (.cons (.var 1) (.cons (.cst (.int 3)) .nil)))) (.cons (.set (.nm 9) (.lst (.cons (.call 3 2 (.cons (.var 3) (.cons (.tup (.cons (.var 10) (.cons (.tup .nil) .nil))) .nil))) (.cons (.call 3 2 (.cons (.var 8) (.cons (.tup (.cons (.var 10) (.cons (.tup .nil) .nil))) .nil))) (.cons (.call 3 2 (.cons (.var 8) (.cons (.tup (.cons (.var 10) (.cons (.bi 4 .tup (.cons (.call 5 3 (.cons (.var 10) .nil)) .nil)) .nil))) .nil))) .nil))))) (.cons (.ife (.not (.call 2 1 (.cons (.var 9) (.cons (.bin .mul (.lst (.cons (.cst (.bool true)) .nil)) (.cst (.int 3))) .nil)))) (.cons (.ret (.cst (.bool false))) .nil) .nil) .nil)))))))))))) (.cons (.ret (.cst (.bool true))) .nil)))⟩
def r_0 : DRow := ⟨"law", defArgs (top 42), defBody (top 42), defScope (top 42), ["script", "state", "turn", "gate_so", "tie_so", "due", "far", "both", "small", "got", "places", "rows", "row"], ["script"], false⟩
/-- _law_like -/
def d_1 : Def' := ⟨2, 2, false, (.cons (.ret (.cmp .eq (.bi 14 .rpr (.cons (.var 0) .nil)) (.bi 14 .rpr (.cons (.var 1) .nil)))) .nil)⟩
def r_1 : DRow := ⟨"_law_like", defArgs (top 37), defBody (top 37), defScope (top 37), ["got", "due"], ["got", "due"], false⟩
/-- keeps -/
def d_2 : Def' := ⟨2, 2, false, (.cons (.ret (.call 15 11 (.cons (.call 16 12 (.cons (.var 0) .nil)) (.cons (.call 17 13 (.cons (.var 1) .nil)) .nil)))) .nil)⟩
def r_2 : DRow := ⟨"keeps", defArgs (top 23), defBody (top 23), defScope (top 23), ["gate", "tie"], ["gate", "tie"], false⟩
/-- _law_rows -/
def d_3 : Def' := ⟨5, 1, false, (.cons (.set (.nm 1) (.lst (.cons (.tup .nil) .nil))) (.cons (.for (.nm 2) (.rng1 1 (.cons (.var 0) .nil)) (.cons (.set (.nm 3) (.lst .nil)) (.cons (.for (.nm 4) (.seq (.var 1)) (.cons (.set (.nm 3) (.bin .add (.var 3) (.lst (.cons (.bin .add (.var 4) (.tup (.cons (.cst (.int 0)) .nil))) (.cons (.bin .add (.var 4) (.tup (.cons (.cst (.int 1)) .nil))) .nil))))) .nil)) (.cons (.set (.nm 1) (.var 3)) .nil)))) (.cons (.ret (.var 1)) .nil)))⟩
def r_3 : DRow := ⟨"_law_rows", defArgs (top 31), defBody (top 31), defScope (top 31), ["many", "rows", "turn", "fresh", "row"], ["many"], false⟩
/-- _law_any_gate -/
def d_4 : Def' := ⟨3, 2, false, (.cons (.ife (.cmp .eq (.call 20 16 (.cons (.var 0) (.cons (.cst (.int 2)) .nil))) (.cst (.int 0))) (.cons (.ret (.call 21 17 (.cons (.var 0) (.cons (.cst (.int 1)) (.cons (.var 1) .nil))))) .nil) .nil) (.cons (.ret (.call 18 14 (.cons (.var 0) (.cons (.lc false [2] (.nm 2) (.seq (.call 19 15 .nil)) (.yes (.cmp (.ord .le) (.ix (.var 2) (.cst (.int 0))) (.var 1))) (.var 2)) .nil)))) .nil))⟩
def r_4 : DRow := ⟨"_law_any_gate", defArgs (top 35), defBody (top 35), defScope (top 35), ["state", "most", "gate_so"], ["state", "most"], false⟩
/-- _law_broken -/
def d_5 : Def' := ⟨3, 2, false, (.cons (.for (.nm 2) (.seq (.call 22 18 (.cons (.ix (.var 1) (.cst (.int 1))) (.cons (.ix (.var 0) (.cst (.int 0))) .nil)))) (.cons (.ife (.cmp .notin (.call 23 19 (.cons (.var 0) (.cons (.var 2) .nil))) (.ix (.var 1) (.cst (.int 1)))) (.cons (.ret (.var 2)) .nil) .nil) .nil)) (.cons (.ret (.cst .none)) .nil))⟩
def r_5 : DRow := ⟨"_law_broken", defArgs (top 41), defBody (top 41), defScope (top 41), ["gate_so", "tie_so", "choice"], ["gate_so", "tie_so"], false⟩
/-- _law_shuffled -/
def d_6 : Def' := ⟨6, 2, true, (.cons (.par 3 4 (.cons (.bi 25 .lstR (.cons (.var 1) .nil)) (.cons (.lstR .nil) .nil))) (.cons (.for (.nm 2) (.rng1 1 (.cons (.bi 24 .len (.cons (.var 3) .nil)) .nil)) (.cons (.set (.nm 5) (.call 18 14 (.cons (.var 0) (.cons (.var 3) .nil)))) (.cons (.expr (.app (.var 4) (.var 5))) (.cons (.expr (.rem (.var 3) (.var 5))) .nil)))) (.cons (.ret (.frz (.var 4))) .nil)))⟩
def r_6 : DRow := ⟨"_law_shuffled", defArgs (top 30), defBody (top 30), defScope (top 30), ["state", "some", "turn", "left", "found", "one"], ["state", "some"], false⟩
/-- broken_rows -/
def d_7 : Def' := ⟨2, 2, false, (.cons (.ret (.call 26 20 (.cons (.call 16 12 (.cons (.var 0) .nil)) (.cons (.call 17 13 (.cons (.var 1) .nil)) .nil)))) .nil)⟩
def r_7 : DRow := ⟨"broken_rows", defArgs (top 24), defBody (top 24), defScope (top 24), ["gate", "tie"], ["gate", "tie"], false⟩
/-- _law_tie -/
def d_8 : Def' := ⟨6, 3, false, (.cons (.set (.nm 3) (.bin .add (.var 1) (.call 20 16 (.cons (.var 0) (.cons (.bin .add (.bin .sub (.var 2) (.var 1)) (.cst (.int 1))) .nil))))) (.cons (.set (.nm 4) (.bin .add (.cst (.int 1)) (.call 20 16 (.cons (.var 0) (.cons (.cst (.int 3)) .nil))))) (.cons (.ret (.tup (.cons (.var 3) (.cons (.bi 4 .tup (.cons (.lc false [5] (.nm 5) (.seq (.call 5 3 (.cons (.var 3) .nil))) (.yes (.cmp (.ord .lt) (.call 20 16 (.cons (.var 0) (.cons (.cst (.int 4)) .nil))) (.var 4))) (.var 5)) .nil)) .nil)))) .nil)))⟩
def r_8 : DRow := ⟨"_law_tie", defArgs (top 36), defBody (top 36), defScope (top 36), ["state", "least", "most", "places", "dense", "row"], ["state", "least", "most"], false⟩
/-- _law_values -/
def d_9 : Def' := ⟨3, 2, false, (.cons (.ret (.bi 4 .tup (.cons (.lc false [2] (.nm 2) (.rng1 1 (.cons (.var 1) .nil)) .no (.call 20 16 (.cons (.var 0) (.cons (.cst (.int 2)) .nil)))) .nil))) .nil)⟩
def r_9 : DRow := ⟨"_law_values", defArgs (top 32), defBody (top 32), defScope (top 32), ["state", "many", "spot"], ["state", "many"], false⟩
/-- _law_begin -/
def d_10 : Def' := ⟨3, 1, true, (.cons (.set (.nm 1) (.ife (.cmp .ne (.var 0) (.lst .nil)) (.bi 25 .lst (.cons (.var 0) .nil)) (.lst (.cons (.cst (.int 0)) .nil)))) (.cons (.ret (.dct [.inr "cells", .inr "lefts", .inr "at"] (.cons (.var 1) (.cons (.lc true [2] (.nm 2) (.seq (.var 1)) .no (.ife (.cmp (.ord .ge) (.var 2) (.bin .pow (.cst (.int 10)) (.cst (.int 18)))) (.var 2) (.cst (.int 0)))) (.cons (.cst (.int 0)) .nil))))) .nil))⟩
def r_10 : DRow := ⟨"_law_begin", defArgs (top 26), defBody (top 26), defScope (top 26), ["script", "cells_so", "cell"], ["script"], false⟩
/-- keeps_so -/
def d_11 : Def' := ⟨2, 2, false, (.cons (.ret (.isN (.call 26 20 (.cons (.var 0) (.cons (.var 1) .nil))))) .nil)⟩
def r_11 : DRow := ⟨"keeps_so", defArgs (top 22), defBody (top 22), defScope (top 22), ["gate", "tie"], ["gate", "tie"], false⟩
/-- need_gate -/
def d_12 : Def' := ⟨2, 1, false, (.cons (.set (.nm 1) (.call 27 21 (.cons (.var 0) .nil))) (.cons (.ife (.ntN (.var 1)) (.cons .bad .nil) .nil) (.cons (.ret (.var 0)) .nil)))⟩
def r_12 : DRow := ⟨"need_gate", defArgs (top 13), defBody (top 13), defScope (top 13), ["gate", "wrong"], ["gate"], false⟩
/-- need_tie -/
def d_13 : Def' := ⟨2, 1, false, (.cons (.set (.nm 1) (.call 28 22 (.cons (.var 0) .nil))) (.cons (.ife (.ntN (.var 1)) (.cons .bad .nil) .nil) (.cons (.ret (.var 0)) .nil)))⟩
def r_13 : DRow := ⟨"need_tie", defArgs (top 19), defBody (top 19), defScope (top 19), ["tie", "wrong"], ["tie"], false⟩
/-- _law_of -/
def d_14 : Def' := ⟨2, 2, false, (.cons (.ret (.ix (.var 1) (.call 20 16 (.cons (.var 0) (.cons (.bi 24 .len (.cons (.var 1) .nil)) .nil))))) .nil)⟩
def r_14 : DRow := ⟨"_law_of", defArgs (top 29), defBody (top 29), defScope (top 29), ["state", "some"], ["state", "some"], false⟩
/-- _law_told_gates -/
def d_15 : Def' := ⟨4, 0, false, (.cons (.set (.nm 0) (.lst (.cons (.tup (.cons (.cst (.int 1)) (.cons (.cst (.str "00")) .nil))) (.cons (.tup (.cons (.cst (.int 1)) (.cons (.cst (.str "11")) .nil))) (.cons (.tup (.cons (.cst (.int 1)) (.cons (.cst (.str "01")) .nil))) (.cons (.tup (.cons (.cst (.int 1)) (.cons (.cst (.str "10")) .nil))) (.cons (.tup (.cons (.cst (.int 2)) (.cons (.cst (.str "0001")) .nil))) (.cons (.tup (.cons (.cst (.int 2)) (.cons (.cst (.str "0111")) .nil))) (.cons (.tup (.cons (.cst (.int 2)) (.cons (.cst (.str "1101")) .nil))) (.cons (.tup (.cons (.cst (.int 2)) (.cons (.cst (.str "0010")) .nil))) (.cons (.tup (.cons (.cst (.int 2)) (.cons (.cst (.str "0110")) .nil))) .nil))))))))))) (.cons (.set (.nm 0) (.bin .add (.var 0) (.lst (.cons (.tup (.cons (.cst (.int 2)) (.cons (.cst (.str "1001")) .nil))) (.cons (.tup (.cons (.cst (.int 2)) (.cons (.cst (.str "1000")) .nil))) (.cons (.tup (.cons (.cst (.int 2)) (.cons (.cst (.str "1110")) .nil))) (.cons (.tup (.cons (.cst (.int 3)) (.cons (.cst (.str "00010111")) .nil))) (.cons (.tup (.cons (.cst (.int 3)) (.cons (.cst (.str "01101001")) .nil))) (.cons (.tup (.cons (.cst (.int 3)) (.cons (.cst (.str "01010011")) .nil))) .nil))))))))) (.cons (.ret (.lc false [1, 2] (.tp [1, 2]) (.seq (.var 0)) .no (.tup (.cons (.var 1) (.cons (.bi 4 .tup (.cons (.lc false [3] (.nm 3) (.seq (.var 2)) .no (.bi 29 .int (.cons (.var 3) .nil))) .nil)) .nil))))) .nil)))⟩
def r_15 : DRow := ⟨"_law_told_gates", defArgs (top 34), defBody (top 34), defScope (top 34), ["rows", "many", "text", "sign"], [], false⟩
/-- _law_draw -/
def d_16 : Def' := ⟨6, 2, false, (.cons (.set (.nm 2) (.ix (.var 0) (.cst (.str "at")))) (.cons (.setI (.var 0) (.cst (.str "at")) (.bin .add (.var 2) (.cst (.int 1)))) (.cons (.set (.nm 3) (.bin .mod (.bi 29 .int (.cons (.var 2) .nil)) (.bi 24 .len (.cons (.ix (.var 0) (.cst (.str "cells"))) .nil)))) (.cons (.set (.nm 4) (.ix (.ix (.var 0) (.cst (.str "lefts"))) (.var 3))) (.cons (.ife (.cmp (.ord .gt) (.var 4) (.cst (.int 0))) (.cons (.setI (.ix (.var 0) (.cst (.str "lefts"))) (.var 3) (.bin .fdiv (.var 4) (.var 1))) (.cons (.ret (.bin .mod (.bi 29 .int (.cons (.var 4) .nil)) (.var 1))) .nil)) .nil) (.cons (.set (.nm 5) (.call 30 23 (.cons (.call 30 23 (.cons (.ix (.ix (.var 0) (.cst (.str "cells"))) (.var 3)) (.cons (.var 2) .nil))) (.cons (.bin .add (.cst (.int 40)) (.var 2)) .nil)))) (.cons (.ret (.bin .mod (.bin .fdiv (.bi 29 .int (.cons (.bin .add (.bin .mul (.var 5) (.cst (.int 2147483647))) (.call 30 23 (.cons (.var 5) (.cons (.bin .add (.cst (.int 7)) (.var 2)) .nil)))) .nil)) (.cst (.int 64))) (.var 1))) .nil)))))))⟩
def r_16 : DRow := ⟨"_law_draw", defArgs (top 28), defBody (top 28), defScope (top 28), ["state", "limit", "at", "place", "left", "number"], ["state", "limit"], false⟩
/-- _law_gate -/
def d_17 : Def' := ⟨4, 3, false, (.cons (.set (.nm 3) (.bin .add (.var 1) (.call 20 16 (.cons (.var 0) (.cons (.bin .add (.bin .sub (.var 2) (.var 1)) (.cst (.int 1))) .nil))))) (.cons (.ret (.tup (.cons (.var 3) (.cons (.call 12 9 (.cons (.var 0) (.cons (.bin .shl (.cst (.int 1)) (.var 3)) .nil))) .nil)))) .nil))⟩
def r_17 : DRow := ⟨"_law_gate", defArgs (top 33), defBody (top 33), defScope (top 33), ["state", "least", "most", "many"], ["state", "least", "most"], false⟩
/-- _law_choices -/
def d_18 : Def' := ⟨7, 2, false, (.cons (.set (.nm 2) (.lst (.cons (.tup .nil) .nil))) (.cons (.for (.nm 3) (.rng1 1 (.cons (.var 1) .nil)) (.cons (.set (.nm 4) (.lst .nil)) (.cons (.for (.nm 5) (.seq (.var 2)) (.cons (.set (.nm 4) (.bin .add (.var 4) (.lc false [6] (.nm 6) (.seq (.var 0)) .no (.bin .add (.var 5) (.tup (.cons (.var 6) .nil)))))) .nil)) (.cons (.set (.nm 2) (.var 4)) .nil)))) (.cons (.ret (.var 2)) .nil)))⟩
def r_18 : DRow := ⟨"_law_choices", defArgs (top 40), defBody (top 40), defScope (top 40), ["some", "many", "found", "turn", "fresh", "one", "far"], ["some", "many"], false⟩
/-- _law_put -/
def d_19 : Def' := ⟨4, 2, false, (.cons (.ret (.bi 4 .tup (.cons (.lc false [2] (.nm 2) (.rng1 1 (.cons (.bi 24 .len (.cons (.ix (.var 1) (.cst (.int 0))) .nil)) .nil)) .no (.call 31 24 (.cons (.var 0) (.cons (.lc false [3] (.nm 3) (.seq (.var 1)) .no (.ix (.var 3) (.var 2))) .nil)))) .nil))) .nil)⟩
def r_19 : DRow := ⟨"_law_put", defArgs (top 39), defBody (top 39), defScope (top 39), ["gate_so", "rows", "spot", "row"], ["gate_so", "rows"], false⟩
/-- broken_so -/
def d_20 : Def' := ⟨3, 2, false, (.cons (.for (.nm 2) (.seq (.call 32 25 (.cons (.ix (.var 1) (.cst (.int 1))) (.cons (.ix (.var 0) (.cst (.int 0))) .nil)))) (.cons (.ife (.cmp .notin (.call 33 26 (.cons (.var 0) (.cons (.var 2) .nil))) (.ix (.var 1) (.cst (.int 1)))) (.cons (.ret (.var 2)) .nil) .nil) .nil)) (.cons (.ret (.cst .none)) .nil))⟩
def r_20 : DRow := ⟨"broken_so", defArgs (top 21), defBody (top 21), defScope (top 21), ["gate", "tie", "choice"], ["gate", "tie"], false⟩
/-- wrong_gate -/
def d_21 : Def' := ⟨3, 1, false, (.cons (.ife (.or (.not (.isi 36 4 (.var 0) .tuple)) (.cmp .ne (.bi 24 .len (.cons (.var 0) .nil)) (.cst (.int 2)))) (.cons (.ret (.tup .nil)) .nil) .nil) (.cons (.ife (.not (.call 37 28 (.cons (.ix (.var 0) (.cst (.int 0))) (.cons (.cst (.int 1)) (.cons (.gl 38 (.int 4)) .nil))))) (.cons (.ret (.tup (.cons (.cst (.int 0)) .nil))) .nil) .nil) (.cons (.ife (.or (.not (.isi 36 4 (.ix (.var 0) (.cst (.int 1))) .tuple)) (.cmp .ne (.bi 24 .len (.cons (.ix (.var 0) (.cst (.int 1))) .nil)) (.bin .shl (.cst (.int 1)) (.ix (.var 0) (.cst (.int 0)))))) (.cons (.ret (.tup (.cons (.cst (.int 1)) .nil))) .nil) .nil) (.cons (.for (.tp [1, 2]) (.enm 34 (.cons (.ix (.var 0) (.cst (.int 1))) .nil)) (.cons (.ife (.not (.call 35 27 (.cons (.var 2) .nil))) (.cons (.ret (.tup (.cons (.cst (.int 1)) (.cons (.var 1) .nil)))) .nil) .nil) .nil)) (.cons (.ret (.cst .none)) .nil)))))⟩
def r_21 : DRow := ⟨"wrong_gate", defArgs (top 12), defBody (top 12), defScope (top 12), ["value", "spot", "one"], ["value"], false⟩
/-- wrong_tie -/
def d_22 : Def' := ⟨3, 1, false, (.cons (.ife (.or (.not (.isi 36 4 (.var 0) .tuple)) (.cmp .ne (.bi 24 .len (.cons (.var 0) .nil)) (.cst (.int 2)))) (.cons (.ret (.tup .nil)) .nil) .nil) (.cons (.ife (.not (.call 37 28 (.cons (.ix (.var 0) (.cst (.int 0))) (.cons (.cst (.int 1)) (.cons (.gl 40 (.int 4)) .nil))))) (.cons (.ret (.tup (.cons (.cst (.int 0)) .nil))) .nil) .nil) (.cons (.ife (.not (.isi 36 4 (.ix (.var 0) (.cst (.int 1))) .tuple)) (.cons (.ret (.tup (.cons (.cst (.int 1)) .nil))) .nil) .nil) (.cons (.for (.tp [1, 2]) (.enm 34 (.cons (.ix (.var 0) (.cst (.int 1))) .nil)) (.cons (.ife (.or (.not (.call 39 29 (.cons (.var 2) (.cons (.ix (.var 0) (.cst (.int 0))) .nil)))) (.and (.cmp (.ord .gt) (.var 1) (.cst (.int 0))) (.cmp (.ord .ge) (.ix (.ix (.var 0) (.cst (.int 1))) (.bin .sub (.var 1) (.cst (.int 1)))) (.var 2)))) (.cons (.ret (.tup (.cons (.cst (.int 1)) (.cons (.var 1) .nil)))) .nil) .nil) .nil)) (.cons (.ret (.cst .none)) .nil)))))⟩
def r_22 : DRow := ⟨"wrong_tie", defArgs (top 18), defBody (top 18), defScope (top 18), ["value", "spot", "row"], ["value"], false⟩
/-- _law_mixed -/
def d_23 : Def' := ⟨2, 2, false, (.cons (.set (.nm 0) (.bin .mod (.bi 29 .int (.cons (.var 0) .nil)) (.cst (.int 2147483647)))) (.cons (.ret (.bin .mod (.bin .mul (.bin .mod (.bin .add (.bin .add (.bin .mul (.var 0) (.bin .add (.cst (.int 48271)) (.bin .mul (.bin .mul (.cst (.int 2)) (.var 1)) (.var 1)))) (.bin .mul (.cst (.int 69621)) (.var 1))) (.cst (.int 11))) (.cst (.int 2147483647))) (.cst (.int 69621))) (.cst (.int 2147483629)))) .nil))⟩
def r_23 : DRow := ⟨"_law_mixed", defArgs (top 27), defBody (top 27), defScope (top 27), ["cell", "k"], ["cell", "k"], false⟩
/-- _law_worth -/
def d_24 : Def' := ⟨4, 2, false, (.cons (.set (.nm 2) (.cst (.int 0))) (.cons (.for (.nm 3) (.seq (.var 1)) (.cons (.set (.nm 2) (.bin .add (.bin .mul (.cst (.int 2)) (.var 2)) (.var 3))) .nil)) (.cons (.ret (.ix (.ix (.var 0) (.cst (.int 1))) (.var 2))) .nil)))⟩
def r_24 : DRow := ⟨"_law_worth", defArgs (top 38), defBody (top 38), defScope (top 38), ["gate_so", "row", "place", "value"], ["gate_so", "row"], false⟩
/-- choices_of -/
def d_25 : Def' := ⟨6, 2, false, (.cons (.set (.nm 2) (.lst (.cons (.tup .nil) .nil))) (.cons (.for (.nm 3) (.rng1 1 (.cons (.var 1) .nil)) (.cons (.set (.nm 2) (.lc2 false [4, 5] (.nm 4) (.seq (.var 2)) .no (.nm 5) (.seq (.var 0)) .no (.bin .add (.var 4) (.tup (.cons (.var 5) .nil))))) .nil)) (.cons (.ret (.var 2)) .nil)))⟩
def r_25 : DRow := ⟨"choices_of", defArgs (top 20), defBody (top 20), defScope (top 20), ["rows", "many", "found", "turn", "choice", "row"], ["rows", "many"], false⟩
/-- put_so -/
def d_26 : Def' := ⟨3, 2, false, (.cons (.ret (.bi 4 .tup (.cons (.lc false [2] (.nm 2) (.zipS 41 (.var 1)) .no (.call 42 30 (.cons (.var 0) (.cons (.var 2) .nil)))) .nil))) .nil)⟩
def r_26 : DRow := ⟨"put_so", defArgs (top 15), defBody (top 15), defScope (top 15), ["gate", "rows", "column"], ["gate", "rows"], false⟩
/-- is_value -/
def d_27 : Def' := ⟨1, 1, false, (.cons (.ret (.call 37 28 (.cons (.var 0) (.cons (.cst (.int 0)) (.cons (.cst (.int 1)) .nil))))) .nil)⟩
def r_27 : DRow := ⟨"is_value", defArgs (top 7), defBody (top 7), defScope (top 7), ["value"], ["value"], false⟩
/-- is_number -/
def d_28 : Def' := ⟨3, 3, false, (.cons (.ret (.and (.call 43 31 (.cons (.var 0) .nil)) (.chn (.ord .le) (.ord .le) (.var 1) (.var 0) (.var 2)))) .nil)⟩
def r_28 : DRow := ⟨"is_number", defArgs (top 6), defBody (top 6), defScope (top 6), ["value", "least", "most"], ["value", "least", "most"], false⟩
/-- is_values -/
def d_29 : Def' := ⟨3, 2, false, (.cons (.ret (.and (.isi 36 4 (.var 0) .tuple) (.and (.cmp .eq (.bi 24 .len (.cons (.var 0) .nil)) (.var 1)) (.gen 44 false [2] (.nm 2) (.seq (.var 0)) .no (.call 35 27 (.cons (.var 2) .nil)))))) .nil)⟩
def r_29 : DRow := ⟨"is_values", defArgs (top 8), defBody (top 8), defScope (top 8), ["value", "many", "one"], ["value", "many"], true⟩
/-- worth_so -/
def d_30 : Def' := ⟨2, 2, false, (.cons (.ret (.ix (.ix (.var 0) (.cst (.int 1))) (.call 45 32 (.cons (.var 1) .nil)))) .nil)⟩
def r_30 : DRow := ⟨"worth_so", defArgs (top 14), defBody (top 14), defScope (top 14), ["gate", "row"], ["gate", "row"], false⟩
/-- is_whole -/
def d_31 : Def' := ⟨1, 1, false, (.cons (.ret (.and (.isi 36 29 (.var 0) .int) (.not (.isi 36 46 (.var 0) .bool)))) .nil)⟩
def r_31 : DRow := ⟨"is_whole", defArgs (top 5), defBody (top 5), defScope (top 5), ["value"], ["value"], false⟩
/-- number_of -/
def d_32 : Def' := ⟨3, 1, false, (.cons (.set (.nm 1) (.cst (.int 0))) (.cons (.for (.nm 2) (.seq (.var 0)) (.cons (.set (.nm 1) (.bin .add (.bin .mul (.cst (.int 2)) (.var 1)) (.var 2))) .nil)) (.cons (.ret (.var 1)) .nil)))⟩
def r_32 : DRow := ⟨"number_of", defArgs (top 11), defBody (top 11), defScope (top 11), ["row", "found", "value"], ["row"], false⟩
def ds_0 : List Def' := [d_0, d_1, d_2, d_3, d_4, d_5, d_6, d_7, d_8, d_9, d_10, d_11, d_12, d_13, d_14, d_15, d_16, d_17, d_18, d_19, d_20, d_21, d_22, d_23, d_24, d_25, d_26, d_27, d_28, d_29]
def ds_1 : List Def' := [d_30, d_31, d_32]
def ds : List Def' := ds_0 ++ (ds_1)
def rs_0 : List DRow := [r_0, r_1, r_2, r_3, r_4, r_5, r_6, r_7, r_8, r_9, r_10, r_11, r_12, r_13, r_14, r_15, r_16, r_17, r_18, r_19, r_20, r_21, r_22, r_23, r_24, r_25, r_26, r_27, r_28, r_29]
def rs_1 : List DRow := [r_30, r_31, r_32]
def rs : List DRow := rs_0 ++ (rs_1)
open PB in
def retQ (tr : Bool) (n : Nat) (Q : Xv → Sto → Prop) (fl : Fl) (S1 : Sto) : Prop := match fl with | .rt x => wp (trunc' tr n x S1) Q | .nx _ => wp (trunc' tr n (.d .none) S1) Q | _ => False
theorem retQ_rt {tr : Bool} {n : Nat} {Q : Xv → Sto → Prop} {x : Xv} {S : Sto} : retQ tr n Q (.rt x) S = wp (trunc' tr n x S) Q := rfl
theorem retQ_nx {tr : Bool} {n : Nat} {Q : Xv → Sto → Prop} {ρ : Env0'} {S : Sto} : retQ tr n Q (.nx ρ) S = wp (trunc' tr n (.d .none) S) Q := rfl
theorem c_0 {k : Nat} {x0 : Xv} {S : Sto} {Q : Xv → Sto → Prop} : wp (callN ds (k + 1) 0 [x0] S) Q = wp (denSs (callN ds k) d_0.body [some x0, none, none, none, none, none, none, none, none, none, none, none, none] S) (retQ d_0.tr S.length Q) := w_callN (d := d_0) rfl rfl
theorem c_1 {k : Nat} {x0 x1 : Xv} {S : Sto} {Q : Xv → Sto → Prop} : wp (callN ds (k + 1) 1 [x0, x1] S) Q = wp (denSs (callN ds k) d_1.body [some x0, some x1] S) (retQ d_1.tr S.length Q) := w_callN (d := d_1) rfl rfl
theorem c_2 {k : Nat} {x0 x1 : Xv} {S : Sto} {Q : Xv → Sto → Prop} : wp (callN ds (k + 1) 2 [x0, x1] S) Q = wp (denSs (callN ds k) d_2.body [some x0, some x1] S) (retQ d_2.tr S.length Q) := w_callN (d := d_2) rfl rfl
theorem c_3 {k : Nat} {x0 : Xv} {S : Sto} {Q : Xv → Sto → Prop} : wp (callN ds (k + 1) 3 [x0] S) Q = wp (denSs (callN ds k) d_3.body [some x0, none, none, none, none] S) (retQ d_3.tr S.length Q) := w_callN (d := d_3) rfl rfl
theorem c_4 {k : Nat} {x0 x1 : Xv} {S : Sto} {Q : Xv → Sto → Prop} : wp (callN ds (k + 1) 4 [x0, x1] S) Q = wp (denSs (callN ds k) d_4.body [some x0, some x1, none] S) (retQ d_4.tr S.length Q) := w_callN (d := d_4) rfl rfl
theorem c_5 {k : Nat} {x0 x1 : Xv} {S : Sto} {Q : Xv → Sto → Prop} : wp (callN ds (k + 1) 5 [x0, x1] S) Q = wp (denSs (callN ds k) d_5.body [some x0, some x1, none] S) (retQ d_5.tr S.length Q) := w_callN (d := d_5) rfl rfl
theorem c_6 {k : Nat} {x0 x1 : Xv} {S : Sto} {Q : Xv → Sto → Prop} : wp (callN ds (k + 1) 6 [x0, x1] S) Q = wp (denSs (callN ds k) d_6.body [some x0, some x1, none, none, none, none] S) (retQ d_6.tr S.length Q) := w_callN (d := d_6) rfl rfl
theorem c_7 {k : Nat} {x0 x1 : Xv} {S : Sto} {Q : Xv → Sto → Prop} : wp (callN ds (k + 1) 7 [x0, x1] S) Q = wp (denSs (callN ds k) d_7.body [some x0, some x1] S) (retQ d_7.tr S.length Q) := w_callN (d := d_7) rfl rfl
theorem c_8 {k : Nat} {x0 x1 x2 : Xv} {S : Sto} {Q : Xv → Sto → Prop} : wp (callN ds (k + 1) 8 [x0, x1, x2] S) Q = wp (denSs (callN ds k) d_8.body [some x0, some x1, some x2, none, none, none] S) (retQ d_8.tr S.length Q) := w_callN (d := d_8) rfl rfl
theorem c_9 {k : Nat} {x0 x1 : Xv} {S : Sto} {Q : Xv → Sto → Prop} : wp (callN ds (k + 1) 9 [x0, x1] S) Q = wp (denSs (callN ds k) d_9.body [some x0, some x1, none] S) (retQ d_9.tr S.length Q) := w_callN (d := d_9) rfl rfl
theorem c_10 {k : Nat} {x0 : Xv} {S : Sto} {Q : Xv → Sto → Prop} : wp (callN ds (k + 1) 10 [x0] S) Q = wp (denSs (callN ds k) d_10.body [some x0, none, none] S) (retQ d_10.tr S.length Q) := w_callN (d := d_10) rfl rfl
theorem c_11 {k : Nat} {x0 x1 : Xv} {S : Sto} {Q : Xv → Sto → Prop} : wp (callN ds (k + 1) 11 [x0, x1] S) Q = wp (denSs (callN ds k) d_11.body [some x0, some x1] S) (retQ d_11.tr S.length Q) := w_callN (d := d_11) rfl rfl
theorem c_12 {k : Nat} {x0 : Xv} {S : Sto} {Q : Xv → Sto → Prop} : wp (callN ds (k + 1) 12 [x0] S) Q = wp (denSs (callN ds k) d_12.body [some x0, none] S) (retQ d_12.tr S.length Q) := w_callN (d := d_12) rfl rfl
theorem c_13 {k : Nat} {x0 : Xv} {S : Sto} {Q : Xv → Sto → Prop} : wp (callN ds (k + 1) 13 [x0] S) Q = wp (denSs (callN ds k) d_13.body [some x0, none] S) (retQ d_13.tr S.length Q) := w_callN (d := d_13) rfl rfl
theorem c_14 {k : Nat} {x0 x1 : Xv} {S : Sto} {Q : Xv → Sto → Prop} : wp (callN ds (k + 1) 14 [x0, x1] S) Q = wp (denSs (callN ds k) d_14.body [some x0, some x1] S) (retQ d_14.tr S.length Q) := w_callN (d := d_14) rfl rfl
theorem c_15 {k : Nat} {S : Sto} {Q : Xv → Sto → Prop} : wp (callN ds (k + 1) 15 [] S) Q = wp (denSs (callN ds k) d_15.body [none, none, none, none] S) (retQ d_15.tr S.length Q) := w_callN (d := d_15) rfl rfl
theorem c_16 {k : Nat} {x0 x1 : Xv} {S : Sto} {Q : Xv → Sto → Prop} : wp (callN ds (k + 1) 16 [x0, x1] S) Q = wp (denSs (callN ds k) d_16.body [some x0, some x1, none, none, none, none] S) (retQ d_16.tr S.length Q) := w_callN (d := d_16) rfl rfl
theorem c_17 {k : Nat} {x0 x1 x2 : Xv} {S : Sto} {Q : Xv → Sto → Prop} : wp (callN ds (k + 1) 17 [x0, x1, x2] S) Q = wp (denSs (callN ds k) d_17.body [some x0, some x1, some x2, none] S) (retQ d_17.tr S.length Q) := w_callN (d := d_17) rfl rfl
theorem c_18 {k : Nat} {x0 x1 : Xv} {S : Sto} {Q : Xv → Sto → Prop} : wp (callN ds (k + 1) 18 [x0, x1] S) Q = wp (denSs (callN ds k) d_18.body [some x0, some x1, none, none, none, none, none] S) (retQ d_18.tr S.length Q) := w_callN (d := d_18) rfl rfl
theorem c_19 {k : Nat} {x0 x1 : Xv} {S : Sto} {Q : Xv → Sto → Prop} : wp (callN ds (k + 1) 19 [x0, x1] S) Q = wp (denSs (callN ds k) d_19.body [some x0, some x1, none, none] S) (retQ d_19.tr S.length Q) := w_callN (d := d_19) rfl rfl
theorem c_20 {k : Nat} {x0 x1 : Xv} {S : Sto} {Q : Xv → Sto → Prop} : wp (callN ds (k + 1) 20 [x0, x1] S) Q = wp (denSs (callN ds k) d_20.body [some x0, some x1, none] S) (retQ d_20.tr S.length Q) := w_callN (d := d_20) rfl rfl
theorem c_21 {k : Nat} {x0 : Xv} {S : Sto} {Q : Xv → Sto → Prop} : wp (callN ds (k + 1) 21 [x0] S) Q = wp (denSs (callN ds k) d_21.body [some x0, none, none] S) (retQ d_21.tr S.length Q) := w_callN (d := d_21) rfl rfl
theorem c_22 {k : Nat} {x0 : Xv} {S : Sto} {Q : Xv → Sto → Prop} : wp (callN ds (k + 1) 22 [x0] S) Q = wp (denSs (callN ds k) d_22.body [some x0, none, none] S) (retQ d_22.tr S.length Q) := w_callN (d := d_22) rfl rfl
theorem c_23 {k : Nat} {x0 x1 : Xv} {S : Sto} {Q : Xv → Sto → Prop} : wp (callN ds (k + 1) 23 [x0, x1] S) Q = wp (denSs (callN ds k) d_23.body [some x0, some x1] S) (retQ d_23.tr S.length Q) := w_callN (d := d_23) rfl rfl
theorem c_24 {k : Nat} {x0 x1 : Xv} {S : Sto} {Q : Xv → Sto → Prop} : wp (callN ds (k + 1) 24 [x0, x1] S) Q = wp (denSs (callN ds k) d_24.body [some x0, some x1, none, none] S) (retQ d_24.tr S.length Q) := w_callN (d := d_24) rfl rfl
theorem c_25 {k : Nat} {x0 x1 : Xv} {S : Sto} {Q : Xv → Sto → Prop} : wp (callN ds (k + 1) 25 [x0, x1] S) Q = wp (denSs (callN ds k) d_25.body [some x0, some x1, none, none, none, none] S) (retQ d_25.tr S.length Q) := w_callN (d := d_25) rfl rfl
theorem c_26 {k : Nat} {x0 x1 : Xv} {S : Sto} {Q : Xv → Sto → Prop} : wp (callN ds (k + 1) 26 [x0, x1] S) Q = wp (denSs (callN ds k) d_26.body [some x0, some x1, none] S) (retQ d_26.tr S.length Q) := w_callN (d := d_26) rfl rfl
theorem c_27 {k : Nat} {x0 : Xv} {S : Sto} {Q : Xv → Sto → Prop} : wp (callN ds (k + 1) 27 [x0] S) Q = wp (denSs (callN ds k) d_27.body [some x0] S) (retQ d_27.tr S.length Q) := w_callN (d := d_27) rfl rfl
theorem c_28 {k : Nat} {x0 x1 x2 : Xv} {S : Sto} {Q : Xv → Sto → Prop} : wp (callN ds (k + 1) 28 [x0, x1, x2] S) Q = wp (denSs (callN ds k) d_28.body [some x0, some x1, some x2] S) (retQ d_28.tr S.length Q) := w_callN (d := d_28) rfl rfl
theorem c_29 {k : Nat} {x0 x1 : Xv} {S : Sto} {Q : Xv → Sto → Prop} : wp (callN ds (k + 1) 29 [x0, x1] S) Q = wp (denSs (callN ds k) d_29.body [some x0, some x1, none] S) (retQ d_29.tr S.length Q) := w_callN (d := d_29) rfl rfl
theorem c_30 {k : Nat} {x0 x1 : Xv} {S : Sto} {Q : Xv → Sto → Prop} : wp (callN ds (k + 1) 30 [x0, x1] S) Q = wp (denSs (callN ds k) d_30.body [some x0, some x1] S) (retQ d_30.tr S.length Q) := w_callN (d := d_30) rfl rfl
theorem c_31 {k : Nat} {x0 : Xv} {S : Sto} {Q : Xv → Sto → Prop} : wp (callN ds (k + 1) 31 [x0] S) Q = wp (denSs (callN ds k) d_31.body [some x0] S) (retQ d_31.tr S.length Q) := w_callN (d := d_31) rfl rfl
theorem c_32 {k : Nat} {x0 : Xv} {S : Sto} {Q : Xv → Sto → Prop} : wp (callN ds (k + 1) 32 [x0] S) Q = wp (denSs (callN ds k) d_32.body [some x0, none, none] S) (retQ d_32.tr S.length Q) := w_callN (d := d_32) rfl rfl
theorem b_0 : r_0.Bnd := fun _ _ _ _ _ _ us hl => match us, hl with | [_], _ => rfl
theorem b_1 : r_1.Bnd := fun _ _ _ _ _ _ us hl => match us, hl with | [_, _], _ => rfl
theorem b_2 : r_2.Bnd := fun _ _ _ _ _ _ us hl => match us, hl with | [_, _], _ => rfl
theorem b_3 : r_3.Bnd := fun _ _ _ _ _ _ us hl => match us, hl with | [_], _ => rfl
theorem b_4 : r_4.Bnd := fun _ _ _ _ _ _ us hl => match us, hl with | [_, _], _ => rfl
theorem b_5 : r_5.Bnd := fun _ _ _ _ _ _ us hl => match us, hl with | [_, _], _ => rfl
theorem b_6 : r_6.Bnd := fun _ _ _ _ _ _ us hl => match us, hl with | [_, _], _ => rfl
theorem b_7 : r_7.Bnd := fun _ _ _ _ _ _ us hl => match us, hl with | [_, _], _ => rfl
theorem b_8 : r_8.Bnd := fun _ _ _ _ _ _ us hl => match us, hl with | [_, _, _], _ => rfl
theorem b_9 : r_9.Bnd := fun _ _ _ _ _ _ us hl => match us, hl with | [_, _], _ => rfl
theorem b_10 : r_10.Bnd := fun _ _ _ _ _ _ us hl => match us, hl with | [_], _ => rfl
theorem b_11 : r_11.Bnd := fun _ _ _ _ _ _ us hl => match us, hl with | [_, _], _ => rfl
theorem b_12 : r_12.Bnd := fun _ _ _ _ _ _ us hl => match us, hl with | [_], _ => rfl
theorem b_13 : r_13.Bnd := fun _ _ _ _ _ _ us hl => match us, hl with | [_], _ => rfl
theorem b_14 : r_14.Bnd := fun _ _ _ _ _ _ us hl => match us, hl with | [_, _], _ => rfl
theorem b_15 : r_15.Bnd := fun _ _ _ _ _ _ us hl => match us, hl with | [], _ => rfl
theorem b_16 : r_16.Bnd := fun _ _ _ _ _ _ us hl => match us, hl with | [_, _], _ => rfl
theorem b_17 : r_17.Bnd := fun _ _ _ _ _ _ us hl => match us, hl with | [_, _, _], _ => rfl
theorem b_18 : r_18.Bnd := fun _ _ _ _ _ _ us hl => match us, hl with | [_, _], _ => rfl
theorem b_19 : r_19.Bnd := fun _ _ _ _ _ _ us hl => match us, hl with | [_, _], _ => rfl
theorem b_20 : r_20.Bnd := fun _ _ _ _ _ _ us hl => match us, hl with | [_, _], _ => rfl
theorem b_21 : r_21.Bnd := fun _ _ _ _ _ _ us hl => match us, hl with | [_], _ => rfl
theorem b_22 : r_22.Bnd := fun _ _ _ _ _ _ us hl => match us, hl with | [_], _ => rfl
theorem b_23 : r_23.Bnd := fun _ _ _ _ _ _ us hl => match us, hl with | [_, _], _ => rfl
theorem b_24 : r_24.Bnd := fun _ _ _ _ _ _ us hl => match us, hl with | [_, _], _ => rfl
theorem b_25 : r_25.Bnd := fun _ _ _ _ _ _ us hl => match us, hl with | [_, _], _ => rfl
theorem b_26 : r_26.Bnd := fun _ _ _ _ _ _ us hl => match us, hl with | [_, _], _ => rfl
theorem b_27 : r_27.Bnd := fun _ _ _ _ _ _ us hl => match us, hl with | [_], _ => rfl
theorem b_28 : r_28.Bnd := fun _ _ _ _ _ _ us hl => match us, hl with | [_, _, _], _ => rfl
theorem b_29 : r_29.Bnd := fun _ _ _ _ _ _ us hl => match us, hl with | [_, _], _ => rfl
theorem b_30 : r_30.Bnd := fun _ _ _ _ _ _ us hl => match us, hl with | [_, _], _ => rfl
theorem b_31 : r_31.Bnd := fun _ _ _ _ _ _ us hl => match us, hl with | [_], _ => rfl
theorem b_32 : r_32.Bnd := fun _ _ _ _ _ _ us hl => match us, hl with | [_], _ => rfl
theorem bnds : AllB rs := ⟨b_0, b_1, b_2, b_3, b_4, b_5, b_6, b_7, b_8, b_9, b_10, b_11, b_12, b_13, b_14, b_15, b_16, b_17, b_18, b_19, b_20, b_21, b_22, b_23, b_24, b_25, b_26, b_27, b_28, b_29, b_30, b_31, b_32, trivial⟩

/-! ### gates -/
def gateD (n : Int) (vals : List Int) : D := .tuple [.int n, .tuple (vals.map .int)]
def num (bs : List Int) : Int := bs.foldl (fun a b => 2 * a + b) 0
def Bits (bs : List Int) : Prop := ∀ b ∈ bs, b = 0 ∨ b = 1
def worth (vals bs : List Int) : Int := vals.getD (num bs).toNat 0
theorem num_app (bs : List Int) (b : Int) : num (bs ++ [b]) = 2 * num bs + b := by
  unfold num; rw [List.foldl_append]; rfl
theorem num_bd : ∀ (bs : List Int) (a : Int), 0 ≤ a → Bits bs → 0 ≤ bs.foldl (fun a b => 2 * a + b) a ∧ bs.foldl (fun a b => 2 * a + b) a < (a + 1) * 2 ^ bs.length
  | [], a, h, _ => by simp; omega
  | b :: bs, a, h, hb => by
    have h1 := hb b (List.mem_cons_self ..)
    have h2 := num_bd bs (2 * a + b) (by omega) fun x hx => hb x (List.mem_cons_of_mem _ hx)
    rw [List.foldl_cons, List.length_cons]
    refine ⟨h2.1, Int.lt_of_lt_of_le h2.2 ?_⟩
    rw [Int.pow_succ]
    have h3 : (0 : Int) < 2 ^ bs.length := Int.pow_pos (by omega)
    have h4 : 2 * a + b + 1 ≤ (a + 1) * 2 := by omega
    calc (2 * a + b + 1) * 2 ^ bs.length ≤ ((a + 1) * 2) * 2 ^ bs.length := Int.mul_le_mul_of_nonneg_right h4 (by omega)
      _ = (a + 1) * (2 ^ bs.length * 2) := by rw [Int.mul_assoc, Int.mul_comm 2]
theorem worth_at {vals bs : List Int} (hb : Bits bs) (hl : vals.length = 2 ^ bs.length) : vals[(num bs).toNat]? = some (worth vals bs) ∧ 0 ≤ num bs := by
  have h := num_bd bs 0 (by omega) hb
  have h2 : num bs < 2 ^ bs.length := by have := h.2; unfold num; simpa using this
  have h1 : 0 ≤ num bs := h.1
  refine ⟨?_, h1⟩
  have hlt : (num bs).toNat < vals.length := by
    rw [hl]
    have : ((num bs).toNat : Int) < ((2 ^ bs.length : Nat) : Int) := by rw [Int.toNat_of_nonneg h1]; simpa using h2
    exact_mod_cast this
  unfold worth
  rw [List.getD_eq_getElem?_getD, List.getElem?_eq_getElem hlt]
  rfl
theorem worth_bit {vals bs : List Int} (hv : Bits vals) (hb : Bits bs) (hl : vals.length = 2 ^ bs.length) : worth vals bs = 0 ∨ worth vals bs = 1 :=
  hv _ (List.mem_of_getElem? (worth_at hb hl).1)
theorem is_whole (k : Nat) (S : Sto) (i : Int) : callN ds (k + 1) 31 [.d (.int i)] S = .ok (.d (.bool true)) S := by
  refine eq_of_wp ?_
  rw [c_31]
  simp only [d_31, retQ_rt, retQ_nx, w_var, w_cst, w_gl, w_bin, w_neg, w_cmp, w_ix, w_call, w_bi, w_nil, w_cons, ws_nil, ws_cons, ws_pass, ws_doc, ws_ret, ws_retN, ws_expr, ws_set, ws_if, ws_for, wi_seq, ws_brk, ws_cont, w_not, w_isN, w_ntN, wq_and, wq_or, w_ife, w_chn, w_tup, w_lst, w_lstR, w_sl, wo_no, wo_yes, w_isi, w_lc, w_lcR, w_lc2, w_gen, w_frz, wi_rng1, wi_rng2, wi_zip, wi_zipS, wi_enm, ws_tp, ws_par, ws_setI, nxQ_nx, nxQ_rt, nxQ_bk, nxQ_ct, brQ_t, brQ_f, alQ_s, wp_ok, List.getElem?_cons_zero, List.getElem?_cons_succ, List.set_cons_zero, List.set_cons_succ, List.length_cons, List.length_nil, List.map_cons, List.map_nil, List.cons_append, List.nil_append, List.replicate_succ, List.replicate_zero, Bi.f, allD, Option.map_some, wb_add, wb_sub, wb_mul, wb_mod, wb_fdiv, tru_b, tru_i, cb_le, cb_lt, cb_ge, cb_gt, cb_eq, cb_ne, wc_of, brQ_b, if_true, if_false, Bool.false_eq_true, ft_l, ft_t, fl_l, fl_t, fi_i, ty_t, ty_l, ty_i, ty_b, w_truncF, ix_t0, ix_t1, ix_t2, ix_t3, isi_tt, isi_lt, isi_it, isi_ii, isi_bi, isi_bb, isi_ib, w_dct, wv_nil, wv_cons, w_app, w_rem, mQ_r, Nat.reduceAdd, Nat.zero_add, Nat.reduceMul, Nat.reduceSub, Int.reduceAdd, Int.reduceSub, Int.reduceMul, Int.reduceLT, Int.reduceLE, Int.reduceEq, Int.reduceBEq, Int.reduceNeg, Int.reduceToNat, Int.cast_ofNat_Int, decide_true, decide_false, Bool.not_true, Bool.not_false, beq_self_eq_true, Bool.true_and, Bool.and_true, true_and, and_true]
theorem is_number (k : Nat) (S : Sto) (i a b : Int) : callN ds (k + 2) 28 [.d (.int i), .d (.int a), .d (.int b)] S = .ok (.d (.bool (decide (a ≤ i ∧ i ≤ b)))) S := by
  refine eq_of_wp ?_
  rw [c_28]
  simp only [d_28, retQ_rt, retQ_nx, w_var, w_cst, w_gl, w_bin, w_neg, w_cmp, w_ix, w_call, w_bi, w_nil, w_cons, ws_nil, ws_cons, ws_pass, ws_doc, ws_ret, ws_retN, ws_expr, ws_set, ws_if, ws_for, wi_seq, ws_brk, ws_cont, w_not, w_isN, w_ntN, wq_and, wq_or, w_ife, w_chn, w_tup, w_lst, w_lstR, w_sl, wo_no, wo_yes, w_isi, w_lc, w_lcR, w_lc2, w_gen, w_frz, wi_rng1, wi_rng2, wi_zip, wi_zipS, wi_enm, ws_tp, ws_par, ws_setI, nxQ_nx, nxQ_rt, nxQ_bk, nxQ_ct, brQ_t, brQ_f, alQ_s, wp_ok, List.getElem?_cons_zero, List.getElem?_cons_succ, List.set_cons_zero, List.set_cons_succ, List.length_cons, List.length_nil, List.map_cons, List.map_nil, List.cons_append, List.nil_append, List.replicate_succ, List.replicate_zero, Bi.f, allD, Option.map_some, wb_add, wb_sub, wb_mul, wb_mod, wb_fdiv, tru_b, tru_i, cb_le, cb_lt, cb_ge, cb_gt, cb_eq, cb_ne, wc_of, brQ_b, if_true, if_false, Bool.false_eq_true, ft_l, ft_t, fl_l, fl_t, fi_i, ty_t, ty_l, ty_i, ty_b, w_truncF, ix_t0, ix_t1, ix_t2, ix_t3, isi_tt, isi_lt, isi_it, isi_ii, isi_bi, isi_bb, isi_ib, w_dct, wv_nil, wv_cons, w_app, w_rem, mQ_r, Nat.reduceAdd, Nat.zero_add, Nat.reduceMul, Nat.reduceSub, Int.reduceAdd, Int.reduceSub, Int.reduceMul, Int.reduceLT, Int.reduceLE, Int.reduceEq, Int.reduceBEq, Int.reduceNeg, Int.reduceToNat, Int.cast_ofNat_Int, decide_true, decide_false, Bool.not_true, Bool.not_false, beq_self_eq_true, Bool.true_and, Bool.and_true, true_and, and_true, is_whole]
  by_cases h1 : a ≤ i
  · rw [if_pos (decide_eq_true h1)]
    exact (by simp [h1])
  · rw [if_neg (by rw [decide_eq_true_eq]; exact h1)]
    exact (by simp [h1])
theorem is_value (k : Nat) (S : Sto) (i : Int) : callN ds (k + 3) 27 [.d (.int i)] S = .ok (.d (.bool (decide (0 ≤ i ∧ i ≤ 1)))) S := by
  refine eq_of_wp ?_
  rw [c_27]
  simp only [d_27, retQ_rt, retQ_nx, w_var, w_cst, w_gl, w_bin, w_neg, w_cmp, w_ix, w_call, w_bi, w_nil, w_cons, ws_nil, ws_cons, ws_pass, ws_doc, ws_ret, ws_retN, ws_expr, ws_set, ws_if, ws_for, wi_seq, ws_brk, ws_cont, w_not, w_isN, w_ntN, wq_and, wq_or, w_ife, w_chn, w_tup, w_lst, w_lstR, w_sl, wo_no, wo_yes, w_isi, w_lc, w_lcR, w_lc2, w_gen, w_frz, wi_rng1, wi_rng2, wi_zip, wi_zipS, wi_enm, ws_tp, ws_par, ws_setI, nxQ_nx, nxQ_rt, nxQ_bk, nxQ_ct, brQ_t, brQ_f, alQ_s, wp_ok, List.getElem?_cons_zero, List.getElem?_cons_succ, List.set_cons_zero, List.set_cons_succ, List.length_cons, List.length_nil, List.map_cons, List.map_nil, List.cons_append, List.nil_append, List.replicate_succ, List.replicate_zero, Bi.f, allD, Option.map_some, wb_add, wb_sub, wb_mul, wb_mod, wb_fdiv, tru_b, tru_i, cb_le, cb_lt, cb_ge, cb_gt, cb_eq, cb_ne, wc_of, brQ_b, if_true, if_false, Bool.false_eq_true, ft_l, ft_t, fl_l, fl_t, fi_i, ty_t, ty_l, ty_i, ty_b, w_truncF, ix_t0, ix_t1, ix_t2, ix_t3, isi_tt, isi_lt, isi_it, isi_ii, isi_bi, isi_bb, isi_ib, w_dct, wv_nil, wv_cons, w_app, w_rem, mQ_r, Nat.reduceAdd, Nat.zero_add, Nat.reduceMul, Nat.reduceSub, Int.reduceAdd, Int.reduceSub, Int.reduceMul, Int.reduceLT, Int.reduceLE, Int.reduceEq, Int.reduceBEq, Int.reduceNeg, Int.reduceToNat, Int.cast_ofNat_Int, decide_true, decide_false, Bool.not_true, Bool.not_false, beq_self_eq_true, Bool.true_and, Bool.and_true, true_and, and_true, is_number]
theorem bit_val {b : Int} (h : b = 0 ∨ b = 1) : decide (0 ≤ b ∧ b ≤ 1) = true := by
  rcases h with rfl | rfl <;> decide
theorem number_of (k : Nat) (S : Sto) (bs : List Int) : callN ds (k + 1) 32 [.d (rowD bs)] S = .ok (.d (.int (num bs))) S := by
  refine eq_of_wp ?_
  rw [c_32]
  simp only [d_32, retQ_rt, retQ_nx, rowD, w_var, w_cst, w_gl, w_bin, w_neg, w_cmp, w_ix, w_call, w_bi, w_nil, w_cons, ws_nil, ws_cons, ws_pass, ws_doc, ws_ret, ws_retN, ws_expr, ws_set, ws_if, ws_for, wi_seq, ws_brk, ws_cont, w_not, w_isN, w_ntN, wq_and, wq_or, w_ife, w_chn, w_tup, w_lst, w_lstR, w_sl, wo_no, wo_yes, w_isi, w_lc, w_lcR, w_lc2, w_gen, w_frz, wi_rng1, wi_rng2, wi_zip, wi_zipS, wi_enm, ws_tp, ws_par, ws_setI, nxQ_nx, nxQ_rt, nxQ_bk, nxQ_ct, brQ_t, brQ_f, alQ_s, wp_ok, List.getElem?_cons_zero, List.getElem?_cons_succ, List.set_cons_zero, List.set_cons_succ, List.length_cons, List.length_nil, List.map_cons, List.map_nil, List.cons_append, List.nil_append, List.replicate_succ, List.replicate_zero, Bi.f, allD, Option.map_some, wb_add, wb_sub, wb_mul, wb_mod, wb_fdiv, tru_b, tru_i, cb_le, cb_lt, cb_ge, cb_gt, cb_eq, cb_ne, wc_of, brQ_b, if_true, if_false, Bool.false_eq_true, ft_l, ft_t, fl_l, fl_t, fi_i, ty_t, ty_l, ty_i, ty_b, w_truncF, ix_t0, ix_t1, ix_t2, ix_t3, isi_tt, isi_lt, isi_it, isi_ii, isi_bi, isi_bb, isi_ib, w_dct, wv_nil, wv_cons, w_app, w_rem, mQ_r, Nat.reduceAdd, Nat.zero_add, Nat.reduceMul, Nat.reduceSub, Int.reduceAdd, Int.reduceSub, Int.reduceMul, Int.reduceLT, Int.reduceLE, Int.reduceEq, Int.reduceBEq, Int.reduceNeg, Int.reduceToNat, Int.cast_ofNat_Int, decide_true, decide_false, Bool.not_true, Bool.not_false, beq_self_eq_true, Bool.true_and, Bool.and_true, true_and, and_true, seqIt, List.map_map]
  refine for_fold (fun (a : Int) ρ => ∃ v, ρ = [some (.d (.tuple (bs.map .int))), some (.d (.int a)), v]) (Xv.d ∘ PyData.int) (fun a b => 2 * a + b) bs 0 _ ⟨none, rfl⟩ (fun a ρ x _ h => ?_) fun ρ' h => ?_
  · obtain ⟨v, rfl⟩ := h
    refine ⟨_, rfl, ?_⟩
    simp only [Function.comp_def, w_var, w_cst, w_gl, w_bin, w_neg, w_cmp, w_ix, w_call, w_bi, w_nil, w_cons, ws_nil, ws_cons, ws_pass, ws_doc, ws_ret, ws_retN, ws_expr, ws_set, ws_if, ws_for, wi_seq, ws_brk, ws_cont, w_not, w_isN, w_ntN, wq_and, wq_or, w_ife, w_chn, w_tup, w_lst, w_lstR, w_sl, wo_no, wo_yes, w_isi, w_lc, w_lcR, w_lc2, w_gen, w_frz, wi_rng1, wi_rng2, wi_zip, wi_zipS, wi_enm, ws_tp, ws_par, ws_setI, nxQ_nx, nxQ_rt, nxQ_bk, nxQ_ct, brQ_t, brQ_f, alQ_s, wp_ok, List.getElem?_cons_zero, List.getElem?_cons_succ, List.set_cons_zero, List.set_cons_succ, List.length_cons, List.length_nil, List.map_cons, List.map_nil, List.cons_append, List.nil_append, List.replicate_succ, List.replicate_zero, Bi.f, allD, Option.map_some, wb_add, wb_sub, wb_mul, wb_mod, wb_fdiv, tru_b, tru_i, cb_le, cb_lt, cb_ge, cb_gt, cb_eq, cb_ne, wc_of, brQ_b, if_true, if_false, Bool.false_eq_true, ft_l, ft_t, fl_l, fl_t, fi_i, ty_t, ty_l, ty_i, ty_b, w_truncF, ix_t0, ix_t1, ix_t2, ix_t3, isi_tt, isi_lt, isi_it, isi_ii, isi_bi, isi_bb, isi_ib, w_dct, wv_nil, wv_cons, w_app, w_rem, mQ_r, Nat.reduceAdd, Nat.zero_add, Nat.reduceMul, Nat.reduceSub, Int.reduceAdd, Int.reduceSub, Int.reduceMul, Int.reduceLT, Int.reduceLE, Int.reduceEq, Int.reduceBEq, Int.reduceNeg, Int.reduceToNat, Int.cast_ofNat_Int, decide_true, decide_false, Bool.not_true, Bool.not_false, beq_self_eq_true, Bool.true_and, Bool.and_true, true_and, and_true]
    exact ⟨.inl (by decide), _, .inl rfl, _, rfl⟩
  · obtain ⟨v, rfl⟩ := h
    simp only [w_var, w_cst, w_gl, w_bin, w_neg, w_cmp, w_ix, w_call, w_bi, w_nil, w_cons, ws_nil, ws_cons, ws_pass, ws_doc, ws_ret, ws_retN, ws_expr, ws_set, ws_if, ws_for, wi_seq, ws_brk, ws_cont, w_not, w_isN, w_ntN, wq_and, wq_or, w_ife, w_chn, w_tup, w_lst, w_lstR, w_sl, wo_no, wo_yes, w_isi, w_lc, w_lcR, w_lc2, w_gen, w_frz, wi_rng1, wi_rng2, wi_zip, wi_zipS, wi_enm, ws_tp, ws_par, ws_setI, nxQ_nx, nxQ_rt, nxQ_bk, nxQ_ct, brQ_t, brQ_f, alQ_s, wp_ok, List.getElem?_cons_zero, List.getElem?_cons_succ, List.set_cons_zero, List.set_cons_succ, List.length_cons, List.length_nil, List.map_cons, List.map_nil, List.cons_append, List.nil_append, List.replicate_succ, List.replicate_zero, Bi.f, allD, Option.map_some, wb_add, wb_sub, wb_mul, wb_mod, wb_fdiv, tru_b, tru_i, cb_le, cb_lt, cb_ge, cb_gt, cb_eq, cb_ne, wc_of, brQ_b, if_true, if_false, Bool.false_eq_true, ft_l, ft_t, fl_l, fl_t, fi_i, ty_t, ty_l, ty_i, ty_b, w_truncF, ix_t0, ix_t1, ix_t2, ix_t3, isi_tt, isi_lt, isi_it, isi_ii, isi_bi, isi_bb, isi_ib, w_dct, wv_nil, wv_cons, w_app, w_rem, mQ_r, Nat.reduceAdd, Nat.zero_add, Nat.reduceMul, Nat.reduceSub, Int.reduceAdd, Int.reduceSub, Int.reduceMul, Int.reduceLT, Int.reduceLE, Int.reduceEq, Int.reduceBEq, Int.reduceNeg, Int.reduceToNat, Int.cast_ofNat_Int, decide_true, decide_false, Bool.not_true, Bool.not_false, beq_self_eq_true, Bool.true_and, Bool.and_true, true_and, and_true]
    ((repeat' apply And.intro) <;> first | trivial | rfl | assumption | skip)
theorem wrong_gate (k : Nat) (S : Sto) (n : Nat) (vals : List Int) (h1 : 1 ≤ n) (h4 : n ≤ 4) (hl : vals.length = 2 ^ n) (hb : Bits vals) : callN ds (k + 4) 21 [.d (gateD n vals)] S = .ok (.d .none) S := by
  refine eq_of_wp ?_
  rw [c_21]
  have e1 : decide ((1 : Int) ≤ (n : Int) ∧ (n : Int) ≤ 4) = true := by rw [decide_eq_true_eq]; omega
  have e2 : ((1 : Int) * 2 ^ (n : Int).toNat) = ((2 ^ n : Nat) : Int) := by rw [Int.one_mul]; simp
  simp only [d_21, retQ_rt, retQ_nx, gateD, w_var, w_cst, w_gl, w_bin, w_neg, w_cmp, w_ix, w_call, w_bi, w_nil, w_cons, ws_nil, ws_cons, ws_pass, ws_doc, ws_ret, ws_retN, ws_expr, ws_set, ws_if, ws_for, wi_seq, ws_brk, ws_cont, w_not, w_isN, w_ntN, wq_and, wq_or, w_ife, w_chn, w_tup, w_lst, w_lstR, w_sl, wo_no, wo_yes, w_isi, w_lc, w_lcR, w_lc2, w_gen, w_frz, wi_rng1, wi_rng2, wi_zip, wi_zipS, wi_enm, ws_tp, ws_par, ws_setI, nxQ_nx, nxQ_rt, nxQ_bk, nxQ_ct, brQ_t, brQ_f, alQ_s, wp_ok, List.getElem?_cons_zero, List.getElem?_cons_succ, List.set_cons_zero, List.set_cons_succ, List.length_cons, List.length_nil, List.map_cons, List.map_nil, List.cons_append, List.nil_append, List.replicate_succ, List.replicate_zero, Bi.f, allD, Option.map_some, wb_add, wb_sub, wb_mul, wb_mod, wb_fdiv, tru_b, tru_i, cb_le, cb_lt, cb_ge, cb_gt, cb_eq, cb_ne, wc_of, brQ_b, if_true, if_false, Bool.false_eq_true, ft_l, ft_t, fl_l, fl_t, fi_i, ty_t, ty_l, ty_i, ty_b, w_truncF, ix_t0, ix_t1, ix_t2, ix_t3, isi_tt, isi_lt, isi_it, isi_ii, isi_bi, isi_bb, isi_ib, w_dct, wv_nil, wv_cons, w_app, w_rem, mQ_r, Nat.reduceAdd, Nat.zero_add, Nat.reduceMul, Nat.reduceSub, Int.reduceAdd, Int.reduceSub, Int.reduceMul, Int.reduceLT, Int.reduceLE, Int.reduceEq, Int.reduceBEq, Int.reduceNeg, Int.reduceToNat, Int.cast_ofNat_Int, decide_true, decide_false, Bool.not_true, Bool.not_false, beq_self_eq_true, Bool.true_and, Bool.and_true, true_and, and_true, is_number, e1, en_t]
  rw [wb_shl (by omega) (by omega) (by decide), e2]
  simp only [List.length_map, hl, cb_ne, enumD_map, en_t, w_var, w_cst, w_gl, w_bin, w_neg, w_cmp, w_ix, w_call, w_bi, w_nil, w_cons, ws_nil, ws_cons, ws_pass, ws_doc, ws_ret, ws_retN, ws_expr, ws_set, ws_if, ws_for, wi_seq, ws_brk, ws_cont, w_not, w_isN, w_ntN, wq_and, wq_or, w_ife, w_chn, w_tup, w_lst, w_lstR, w_sl, wo_no, wo_yes, w_isi, w_lc, w_lcR, w_lc2, w_gen, w_frz, wi_rng1, wi_rng2, wi_zip, wi_zipS, wi_enm, ws_tp, ws_par, ws_setI, nxQ_nx, nxQ_rt, nxQ_bk, nxQ_ct, brQ_t, brQ_f, alQ_s, wp_ok, List.getElem?_cons_zero, List.getElem?_cons_succ, List.set_cons_zero, List.set_cons_succ, List.length_cons, List.length_nil, List.map_cons, List.map_nil, List.cons_append, List.nil_append, List.replicate_succ, List.replicate_zero, Bi.f, allD, Option.map_some, wb_add, wb_sub, wb_mul, wb_mod, wb_fdiv, tru_b, tru_i, cb_le, cb_lt, cb_ge, cb_gt, cb_eq, cb_ne, wc_of, brQ_b, if_true, if_false, Bool.false_eq_true, ft_l, ft_t, fl_l, fl_t, fi_i, ty_t, ty_l, ty_i, ty_b, w_truncF, ix_t0, ix_t1, ix_t2, ix_t3, isi_tt, isi_lt, isi_it, isi_ii, isi_bi, isi_bb, isi_ib, w_dct, wv_nil, wv_cons, w_app, w_rem, mQ_r, Nat.reduceAdd, Nat.zero_add, Nat.reduceMul, Nat.reduceSub, Int.reduceAdd, Int.reduceSub, Int.reduceMul, Int.reduceLT, Int.reduceLE, Int.reduceEq, Int.reduceBEq, Int.reduceNeg, Int.reduceToNat, Int.cast_ofNat_Int, decide_true, decide_false, Bool.not_true, Bool.not_false, beq_self_eq_true, Bool.true_and, Bool.and_true, true_and, and_true]
  refine for_none (fun ρ => ∃ a b, ρ = [some (.d (.tuple [.int n, .tuple (vals.map .int)])), a, b]) (fun p : Int × Nat => .d (.tuple [.int p.2, .int p.1])) (vals.zipIdx 0) _ ⟨_, _, rfl⟩ (fun ρ x hx h => ?_) fun ρ' h => ?_
  · obtain ⟨a, b, rfl⟩ := h
    refine ⟨_, rfl, ?_⟩
    have hv : decide ((0 : Int) ≤ x.1 ∧ x.1 ≤ 1) = true := bit_val (hb _ (List.fst_mem_of_mem_zipIdx hx))
    simp only [w_var, w_cst, w_gl, w_bin, w_neg, w_cmp, w_ix, w_call, w_bi, w_nil, w_cons, ws_nil, ws_cons, ws_pass, ws_doc, ws_ret, ws_retN, ws_expr, ws_set, ws_if, ws_for, wi_seq, ws_brk, ws_cont, w_not, w_isN, w_ntN, wq_and, wq_or, w_ife, w_chn, w_tup, w_lst, w_lstR, w_sl, wo_no, wo_yes, w_isi, w_lc, w_lcR, w_lc2, w_gen, w_frz, wi_rng1, wi_rng2, wi_zip, wi_zipS, wi_enm, ws_tp, ws_par, ws_setI, nxQ_nx, nxQ_rt, nxQ_bk, nxQ_ct, brQ_t, brQ_f, alQ_s, wp_ok, List.getElem?_cons_zero, List.getElem?_cons_succ, List.set_cons_zero, List.set_cons_succ, List.length_cons, List.length_nil, List.map_cons, List.map_nil, List.cons_append, List.nil_append, List.replicate_succ, List.replicate_zero, Bi.f, allD, Option.map_some, wb_add, wb_sub, wb_mul, wb_mod, wb_fdiv, tru_b, tru_i, cb_le, cb_lt, cb_ge, cb_gt, cb_eq, cb_ne, wc_of, brQ_b, if_true, if_false, Bool.false_eq_true, ft_l, ft_t, fl_l, fl_t, fi_i, ty_t, ty_l, ty_i, ty_b, w_truncF, ix_t0, ix_t1, ix_t2, ix_t3, isi_tt, isi_lt, isi_it, isi_ii, isi_bi, isi_bb, isi_ib, w_dct, wv_nil, wv_cons, w_app, w_rem, mQ_r, Nat.reduceAdd, Nat.zero_add, Nat.reduceMul, Nat.reduceSub, Int.reduceAdd, Int.reduceSub, Int.reduceMul, Int.reduceLT, Int.reduceLE, Int.reduceEq, Int.reduceBEq, Int.reduceNeg, Int.reduceToNat, Int.cast_ofNat_Int, decide_true, decide_false, Bool.not_true, Bool.not_false, beq_self_eq_true, Bool.true_and, Bool.and_true, true_and, and_true, is_value, hv]
    exact ⟨_, .inl rfl, _, _, rfl⟩
  · obtain ⟨a, b, rfl⟩ := h
    simp only [w_var, w_cst, w_gl, w_bin, w_neg, w_cmp, w_ix, w_call, w_bi, w_nil, w_cons, ws_nil, ws_cons, ws_pass, ws_doc, ws_ret, ws_retN, ws_expr, ws_set, ws_if, ws_for, wi_seq, ws_brk, ws_cont, w_not, w_isN, w_ntN, wq_and, wq_or, w_ife, w_chn, w_tup, w_lst, w_lstR, w_sl, wo_no, wo_yes, w_isi, w_lc, w_lcR, w_lc2, w_gen, w_frz, wi_rng1, wi_rng2, wi_zip, wi_zipS, wi_enm, ws_tp, ws_par, ws_setI, nxQ_nx, nxQ_rt, nxQ_bk, nxQ_ct, brQ_t, brQ_f, alQ_s, wp_ok, List.getElem?_cons_zero, List.getElem?_cons_succ, List.set_cons_zero, List.set_cons_succ, List.length_cons, List.length_nil, List.map_cons, List.map_nil, List.cons_append, List.nil_append, List.replicate_succ, List.replicate_zero, Bi.f, allD, Option.map_some, wb_add, wb_sub, wb_mul, wb_mod, wb_fdiv, tru_b, tru_i, cb_le, cb_lt, cb_ge, cb_gt, cb_eq, cb_ne, wc_of, brQ_b, if_true, if_false, Bool.false_eq_true, ft_l, ft_t, fl_l, fl_t, fi_i, ty_t, ty_l, ty_i, ty_b, w_truncF, ix_t0, ix_t1, ix_t2, ix_t3, isi_tt, isi_lt, isi_it, isi_ii, isi_bi, isi_bb, isi_ib, w_dct, wv_nil, wv_cons, w_app, w_rem, mQ_r, Nat.reduceAdd, Nat.zero_add, Nat.reduceMul, Nat.reduceSub, Int.reduceAdd, Int.reduceSub, Int.reduceMul, Int.reduceLT, Int.reduceLE, Int.reduceEq, Int.reduceBEq, Int.reduceNeg, Int.reduceToNat, Int.cast_ofNat_Int, decide_true, decide_false, Bool.not_true, Bool.not_false, beq_self_eq_true, Bool.true_and, Bool.and_true, true_and, and_true]
theorem need_gate (k : Nat) (S : Sto) (n : Nat) (vals : List Int) (h1 : 1 ≤ n) (h4 : n ≤ 4) (hl : vals.length = 2 ^ n) (hb : Bits vals) : callN ds (k + 5) 12 [.d (gateD n vals)] S = .ok (.d (gateD n vals)) S := by
  refine eq_of_wp ?_
  rw [c_12]
  simp only [d_12, retQ_rt, retQ_nx, w_var, w_cst, w_gl, w_bin, w_neg, w_cmp, w_ix, w_call, w_bi, w_nil, w_cons, ws_nil, ws_cons, ws_pass, ws_doc, ws_ret, ws_retN, ws_expr, ws_set, ws_if, ws_for, wi_seq, ws_brk, ws_cont, w_not, w_isN, w_ntN, wq_and, wq_or, w_ife, w_chn, w_tup, w_lst, w_lstR, w_sl, wo_no, wo_yes, w_isi, w_lc, w_lcR, w_lc2, w_gen, w_frz, wi_rng1, wi_rng2, wi_zip, wi_zipS, wi_enm, ws_tp, ws_par, ws_setI, nxQ_nx, nxQ_rt, nxQ_bk, nxQ_ct, brQ_t, brQ_f, alQ_s, wp_ok, List.getElem?_cons_zero, List.getElem?_cons_succ, List.set_cons_zero, List.set_cons_succ, List.length_cons, List.length_nil, List.map_cons, List.map_nil, List.cons_append, List.nil_append, List.replicate_succ, List.replicate_zero, Bi.f, allD, Option.map_some, wb_add, wb_sub, wb_mul, wb_mod, wb_fdiv, tru_b, tru_i, cb_le, cb_lt, cb_ge, cb_gt, cb_eq, cb_ne, wc_of, brQ_b, if_true, if_false, Bool.false_eq_true, ft_l, ft_t, fl_l, fl_t, fi_i, ty_t, ty_l, ty_i, ty_b, w_truncF, ix_t0, ix_t1, ix_t2, ix_t3, isi_tt, isi_lt, isi_it, isi_ii, isi_bi, isi_bb, isi_ib, w_dct, wv_nil, wv_cons, w_app, w_rem, mQ_r, Nat.reduceAdd, Nat.zero_add, Nat.reduceMul, Nat.reduceSub, Int.reduceAdd, Int.reduceSub, Int.reduceMul, Int.reduceLT, Int.reduceLE, Int.reduceEq, Int.reduceBEq, Int.reduceNeg, Int.reduceToNat, Int.cast_ofNat_Int, decide_true, decide_false, Bool.not_true, Bool.not_false, beq_self_eq_true, Bool.true_and, Bool.and_true, true_and, and_true, wrong_gate k S n vals h1 h4 hl hb, isNoneX]
theorem worth_so (k : Nat) (S : Sto) (n : Int) (vals bs : List Int) (hb : Bits bs) (hl : vals.length = 2 ^ bs.length) : callN ds (k + 2) 30 [.d (gateD n vals), .d (rowD bs)] S = .ok (.d (.int (worth vals bs))) S := by
  obtain ⟨h, h0⟩ := worth_at hb hl
  refine eq_of_wp ?_
  rw [c_30]
  simp only [d_30, retQ_rt, retQ_nx, gateD, w_var, w_cst, w_gl, w_bin, w_neg, w_cmp, w_ix, w_call, w_bi, w_nil, w_cons, ws_nil, ws_cons, ws_pass, ws_doc, ws_ret, ws_retN, ws_expr, ws_set, ws_if, ws_for, wi_seq, ws_brk, ws_cont, w_not, w_isN, w_ntN, wq_and, wq_or, w_ife, w_chn, w_tup, w_lst, w_lstR, w_sl, wo_no, wo_yes, w_isi, w_lc, w_lcR, w_lc2, w_gen, w_frz, wi_rng1, wi_rng2, wi_zip, wi_zipS, wi_enm, ws_tp, ws_par, ws_setI, nxQ_nx, nxQ_rt, nxQ_bk, nxQ_ct, brQ_t, brQ_f, alQ_s, wp_ok, List.getElem?_cons_zero, List.getElem?_cons_succ, List.set_cons_zero, List.set_cons_succ, List.length_cons, List.length_nil, List.map_cons, List.map_nil, List.cons_append, List.nil_append, List.replicate_succ, List.replicate_zero, Bi.f, allD, Option.map_some, wb_add, wb_sub, wb_mul, wb_mod, wb_fdiv, tru_b, tru_i, cb_le, cb_lt, cb_ge, cb_gt, cb_eq, cb_ne, wc_of, brQ_b, if_true, if_false, Bool.false_eq_true, ft_l, ft_t, fl_l, fl_t, fi_i, ty_t, ty_l, ty_i, ty_b, w_truncF, ix_t0, ix_t1, ix_t2, ix_t3, isi_tt, isi_lt, isi_it, isi_ii, isi_bi, isi_bb, isi_ib, w_dct, wv_nil, wv_cons, w_app, w_rem, mQ_r, Nat.reduceAdd, Nat.zero_add, Nat.reduceMul, Nat.reduceSub, Int.reduceAdd, Int.reduceSub, Int.reduceMul, Int.reduceLT, Int.reduceLE, Int.reduceEq, Int.reduceBEq, Int.reduceNeg, Int.reduceToNat, Int.cast_ofNat_Int, decide_true, decide_false, Bool.not_true, Bool.not_false, beq_self_eq_true, Bool.true_and, Bool.and_true, true_and, and_true, number_of]
  rw [ix_t (d := .int (worth vals bs)) (atI_nat h0 (by rw [List.getElem?_map, h]; rfl))]
  ((repeat' apply And.intro) <;> first | trivial | rfl | assumption | skip)
theorem put_so (k : Nat) (S : Sto) (vals : List Int) (rows : List (List Int)) (p : Nat) (h0 : rows ≠ []) (h5 : rows.length ≤ 5) (hl : ∀ r ∈ rows, r.length = p) (hb : ∀ r ∈ rows, Bits r) (hv : vals.length = 2 ^ rows.length) :
    callN ds (k + 3) 26 [.d (gateD rows.length vals), .d (rowsD rows)] S = .ok (.d (rowD ((cols rows p).map (worth vals)))) S := by
  refine eq_of_wp ?_
  rw [c_26]
  simp only [d_26, retQ_rt, retQ_nx, w_var, w_cst, w_gl, w_bin, w_neg, w_cmp, w_ix, w_call, w_bi, w_nil, w_cons, ws_nil, ws_cons, ws_pass, ws_doc, ws_ret, ws_retN, ws_expr, ws_set, ws_if, ws_for, wi_seq, ws_brk, ws_cont, w_not, w_isN, w_ntN, wq_and, wq_or, w_ife, w_chn, w_tup, w_lst, w_lstR, w_sl, wo_no, wo_yes, w_isi, w_lc, w_lcR, w_lc2, w_gen, w_frz, wi_rng1, wi_rng2, wi_zip, wi_zipS, wi_enm, ws_tp, ws_par, ws_setI, nxQ_nx, nxQ_rt, nxQ_bk, nxQ_ct, brQ_t, brQ_f, alQ_s, wp_ok, List.getElem?_cons_zero, List.getElem?_cons_succ, List.set_cons_zero, List.set_cons_succ, List.length_cons, List.length_nil, List.map_cons, List.map_nil, List.cons_append, List.nil_append, List.replicate_succ, List.replicate_zero, Bi.f, allD, Option.map_some, wb_add, wb_sub, wb_mul, wb_mod, wb_fdiv, tru_b, tru_i, cb_le, cb_lt, cb_ge, cb_gt, cb_eq, cb_ne, wc_of, brQ_b, if_true, if_false, Bool.false_eq_true, ft_l, ft_t, fl_l, fl_t, fi_i, ty_t, ty_l, ty_i, ty_b, w_truncF, ix_t0, ix_t1, ix_t2, ix_t3, isi_tt, isi_lt, isi_it, isi_ii, isi_bi, isi_bb, isi_ib, w_dct, wv_nil, wv_cons, w_app, w_rem, mQ_r, Nat.reduceAdd, Nat.zero_add, Nat.reduceMul, Nat.reduceSub, Int.reduceAdd, Int.reduceSub, Int.reduceMul, Int.reduceLT, Int.reduceLE, Int.reduceEq, Int.reduceBEq, Int.reduceNeg, Int.reduceToNat, Int.cast_ofNat_Int, decide_true, decide_false, Bool.not_true, Bool.not_false, beq_self_eq_true, Bool.true_and, Bool.and_true, true_and, and_true]
  rw [wp_of_eq (star_rows h0 h5 hl)]
  refine lc_map (fun c => .d (rowD c)) (fun c => .int (worth vals c)) (cols rows p) (fun c hc => ⟨_, rfl, ?_⟩) ?_
  · have hcb : Bits c := by
      obtain ⟨s, hs, rfl⟩ := List.mem_map.mp hc
      intro b hb'
      obtain ⟨r, hr, rfl⟩ := List.mem_map.mp hb'
      have hsl : s < r.length := by rw [hl r hr]; exact List.mem_range.mp hs
      rw [List.getD_eq_getElem?_getD, List.getElem?_eq_getElem hsl]
      exact hb r hr _ (List.getElem_mem hsl)
    have hcl : c.length = rows.length := by
      obtain ⟨s, hs, rfl⟩ := List.mem_map.mp hc
      rw [List.length_map]
    simp only [wipeR, w_var, w_cst, w_gl, w_bin, w_neg, w_cmp, w_ix, w_call, w_bi, w_nil, w_cons, ws_nil, ws_cons, ws_pass, ws_doc, ws_ret, ws_retN, ws_expr, ws_set, ws_if, ws_for, wi_seq, ws_brk, ws_cont, w_not, w_isN, w_ntN, wq_and, wq_or, w_ife, w_chn, w_tup, w_lst, w_lstR, w_sl, wo_no, wo_yes, w_isi, w_lc, w_lcR, w_lc2, w_gen, w_frz, wi_rng1, wi_rng2, wi_zip, wi_zipS, wi_enm, ws_tp, ws_par, ws_setI, nxQ_nx, nxQ_rt, nxQ_bk, nxQ_ct, brQ_t, brQ_f, alQ_s, wp_ok, List.getElem?_cons_zero, List.getElem?_cons_succ, List.set_cons_zero, List.set_cons_succ, List.length_cons, List.length_nil, List.map_cons, List.map_nil, List.cons_append, List.nil_append, List.replicate_succ, List.replicate_zero, Bi.f, allD, Option.map_some, wb_add, wb_sub, wb_mul, wb_mod, wb_fdiv, tru_b, tru_i, cb_le, cb_lt, cb_ge, cb_gt, cb_eq, cb_ne, wc_of, brQ_b, if_true, if_false, Bool.false_eq_true, ft_l, ft_t, fl_l, fl_t, fi_i, ty_t, ty_l, ty_i, ty_b, w_truncF, ix_t0, ix_t1, ix_t2, ix_t3, isi_tt, isi_lt, isi_it, isi_ii, isi_bi, isi_bb, isi_ib, w_dct, wv_nil, wv_cons, w_app, w_rem, mQ_r, Nat.reduceAdd, Nat.zero_add, Nat.reduceMul, Nat.reduceSub, Int.reduceAdd, Int.reduceSub, Int.reduceMul, Int.reduceLT, Int.reduceLE, Int.reduceEq, Int.reduceBEq, Int.reduceNeg, Int.reduceToNat, Int.cast_ofNat_Int, decide_true, decide_false, Bool.not_true, Bool.not_false, beq_self_eq_true, Bool.true_and, Bool.and_true, true_and, and_true]
    rw [wp_of_eq (worth_so k S rows.length vals c hcb (by rw [hcl]; exact hv))]
    ((repeat' apply And.intro) <;> first | trivial | rfl | assumption | skip)
  · simp only [w_var, w_cst, w_gl, w_bin, w_neg, w_cmp, w_ix, w_call, w_bi, w_nil, w_cons, ws_nil, ws_cons, ws_pass, ws_doc, ws_ret, ws_retN, ws_expr, ws_set, ws_if, ws_for, wi_seq, ws_brk, ws_cont, w_not, w_isN, w_ntN, wq_and, wq_or, w_ife, w_chn, w_tup, w_lst, w_lstR, w_sl, wo_no, wo_yes, w_isi, w_lc, w_lcR, w_lc2, w_gen, w_frz, wi_rng1, wi_rng2, wi_zip, wi_zipS, wi_enm, ws_tp, ws_par, ws_setI, nxQ_nx, nxQ_rt, nxQ_bk, nxQ_ct, brQ_t, brQ_f, alQ_s, wp_ok, List.getElem?_cons_zero, List.getElem?_cons_succ, List.set_cons_zero, List.set_cons_succ, List.length_cons, List.length_nil, List.map_cons, List.map_nil, List.cons_append, List.nil_append, List.replicate_succ, List.replicate_zero, Bi.f, allD, Option.map_some, wb_add, wb_sub, wb_mul, wb_mod, wb_fdiv, tru_b, tru_i, cb_le, cb_lt, cb_ge, cb_gt, cb_eq, cb_ne, wc_of, brQ_b, if_true, if_false, Bool.false_eq_true, ft_l, ft_t, fl_l, fl_t, fi_i, ty_t, ty_l, ty_i, ty_b, w_truncF, ix_t0, ix_t1, ix_t2, ix_t3, isi_tt, isi_lt, isi_it, isi_ii, isi_bi, isi_bb, isi_ib, w_dct, wv_nil, wv_cons, w_app, w_rem, mQ_r, Nat.reduceAdd, Nat.zero_add, Nat.reduceMul, Nat.reduceSub, Int.reduceAdd, Int.reduceSub, Int.reduceMul, Int.reduceLT, Int.reduceLE, Int.reduceEq, Int.reduceBEq, Int.reduceNeg, Int.reduceToNat, Int.cast_ofNat_Int, decide_true, decide_false, Bool.not_true, Bool.not_false, beq_self_eq_true, Bool.true_and, Bool.and_true, true_and, and_true, rowD, List.map_map]
    ((repeat' apply And.intro) <;> first | trivial | rfl | assumption | skip)
/-! ### ties -/
def tieD (p : Int) (rows : List (List Int)) : D := .tuple [.int p, rowsD rows]
def choices {α : Type} (some : List α) : Nat → List (List α)
  | 0 => [[]]
  | n + 1 => (choices some n).flatMap fun c => some.map fun r => c ++ [r]
theorem choices_len {α : Type} (some : List α) : ∀ n, (choices some n).length = some.length ^ n
  | 0 => rfl
  | n + 1 => by
    have key : ∀ l : List (List α), (l.flatMap fun c => some.map fun r => c ++ [r]).length = l.length * some.length := fun l => by
      induction l with
      | nil => simp
      | cons x l ih => rw [List.flatMap_cons, List.length_append, ih, List.length_map, List.length_cons, Nat.succ_mul, Nat.add_comm]
    show ((choices some n).flatMap fun c => some.map fun r => c ++ [r]).length = _
    rw [key, choices_len some n, Nat.pow_succ]
theorem choices_mem {α : Type} {some : List α} : ∀ {n : Nat} {c : List α}, c ∈ choices some n ↔ c.length = n ∧ ∀ r ∈ c, r ∈ some
  | 0, c => by
    show c ∈ [[]] ↔ _
    constructor
    · intro h
      rw [List.mem_singleton.mp h]
      exact ⟨rfl, fun _ h => absurd h List.not_mem_nil⟩
    · rintro ⟨h, _⟩
      rw [List.length_eq_zero_iff.mp h]
      exact List.mem_singleton.mpr rfl
  | n + 1, c => by
    show c ∈ (choices some n).flatMap _ ↔ _
    rw [List.mem_flatMap]
    constructor
    · rintro ⟨a, ha, h⟩
      obtain ⟨r, hr, rfl⟩ := List.mem_map.mp h
      obtain ⟨h1, h2⟩ := choices_mem.mp ha
      refine ⟨by simp [h1], fun x hx => ?_⟩
      rcases List.mem_append.mp hx with h | h
      · exact h2 x h
      · rw [List.mem_singleton.mp h]; exact hr
    · rintro ⟨h1, h2⟩
      have hne : c ≠ [] := fun z => by rw [z] at h1; cases h1
      refine ⟨c.dropLast, choices_mem.mpr ⟨by simp [h1], fun r hr => h2 r (List.dropLast_subset c hr)⟩, List.mem_map.mpr ⟨c.getLast hne, h2 _ (List.getLast_mem hne), List.dropLast_concat_getLast hne⟩⟩
def putR (vals : List Int) (p : Nat) (c : List (List Int)) : List Int := (cols c p).map (worth vals)
def brk (n : Nat) (vals : List Int) (p : Nat) (rows : List (List Int)) : Option (List (List Int)) := (choices rows n).find? fun c => !rows.contains (putR vals p c)
def optRows : Option (List (List Int)) → D
  | none => .none
  | some c => rowsD c
/-- rows of p bits -/
structure Rows (p : Nat) (rows : List (List Int)) : Prop where
  ln : ∀ r ∈ rows, r.length = p
  bt : ∀ r ∈ rows, Bits r
theorem Rows.sub {p : Nat} {rows rows' : List (List Int)} (h : Rows p rows) (hs : ∀ r ∈ rows', r ∈ rows) : Rows p rows' := ⟨fun r hr => h.ln r (hs r hr), fun r hr => h.bt r (hs r hr)⟩
theorem is_values (k : Nat) (S : Sto) (bs : List Int) (p : Nat) (hl : bs.length = p) (hb : Bits bs) : callN ds (k + 4) 29 [.d (rowD bs), .d (.int p)] S = .ok (.d (.bool true)) S := by
  subst hl
  refine eq_of_wp ?_
  rw [c_29]
  simp only [d_29, retQ_rt, retQ_nx, rowD, w_var, w_cst, w_gl, w_bin, w_neg, w_cmp, w_ix, w_call, w_bi, w_nil, w_cons, ws_nil, ws_cons, ws_pass, ws_doc, ws_ret, ws_retN, ws_expr, ws_set, ws_if, ws_for, wi_seq, ws_brk, ws_cont, w_not, w_isN, w_ntN, wq_and, wq_or, w_ife, w_chn, w_tup, w_lst, w_lstR, w_sl, wo_no, wo_yes, w_isi, w_lc, w_lcR, w_lc2, w_gen, w_frz, wi_rng1, wi_rng2, wi_zip, wi_zipS, wi_enm, ws_tp, ws_par, ws_setI, nxQ_nx, nxQ_rt, nxQ_bk, nxQ_ct, brQ_t, brQ_f, alQ_s, wp_ok, List.getElem?_cons_zero, List.getElem?_cons_succ, List.set_cons_zero, List.set_cons_succ, List.length_cons, List.length_nil, List.map_cons, List.map_nil, List.cons_append, List.nil_append, List.replicate_succ, List.replicate_zero, Bi.f, allD, Option.map_some, wb_add, wb_sub, wb_mul, wb_mod, wb_fdiv, tru_b, tru_i, cb_le, cb_lt, cb_ge, cb_gt, cb_eq, cb_ne, wc_of, brQ_b, if_true, if_false, Bool.false_eq_true, ft_l, ft_t, fl_l, fl_t, fi_i, ty_t, ty_l, ty_i, ty_b, w_truncF, ix_t0, ix_t1, ix_t2, ix_t3, isi_tt, isi_lt, isi_it, isi_ii, isi_bi, isi_bb, isi_ib, w_dct, wv_nil, wv_cons, w_app, w_rem, mQ_r, Nat.reduceAdd, Nat.zero_add, Nat.reduceMul, Nat.reduceSub, Int.reduceAdd, Int.reduceSub, Int.reduceMul, Int.reduceLT, Int.reduceLE, Int.reduceEq, Int.reduceBEq, Int.reduceNeg, Int.reduceToNat, Int.cast_ofNat_Int, decide_true, decide_false, Bool.not_true, Bool.not_false, beq_self_eq_true, Bool.true_and, Bool.and_true, true_and, and_true, List.length_map, cb_eq, seqIt, List.map_map]
  refine gen_allT (Xv.d ∘ PyData.int) bs (fun b hm => ⟨_, rfl, ?_⟩) ?_
  · simp only [Function.comp_def, wipeR, w_var, w_cst, w_gl, w_bin, w_neg, w_cmp, w_ix, w_call, w_bi, w_nil, w_cons, ws_nil, ws_cons, ws_pass, ws_doc, ws_ret, ws_retN, ws_expr, ws_set, ws_if, ws_for, wi_seq, ws_brk, ws_cont, w_not, w_isN, w_ntN, wq_and, wq_or, w_ife, w_chn, w_tup, w_lst, w_lstR, w_sl, wo_no, wo_yes, w_isi, w_lc, w_lcR, w_lc2, w_gen, w_frz, wi_rng1, wi_rng2, wi_zip, wi_zipS, wi_enm, ws_tp, ws_par, ws_setI, nxQ_nx, nxQ_rt, nxQ_bk, nxQ_ct, brQ_t, brQ_f, alQ_s, wp_ok, List.getElem?_cons_zero, List.getElem?_cons_succ, List.set_cons_zero, List.set_cons_succ, List.length_cons, List.length_nil, List.map_cons, List.map_nil, List.cons_append, List.nil_append, List.replicate_succ, List.replicate_zero, Bi.f, allD, Option.map_some, wb_add, wb_sub, wb_mul, wb_mod, wb_fdiv, tru_b, tru_i, cb_le, cb_lt, cb_ge, cb_gt, cb_eq, cb_ne, wc_of, brQ_b, if_true, if_false, Bool.false_eq_true, ft_l, ft_t, fl_l, fl_t, fi_i, ty_t, ty_l, ty_i, ty_b, w_truncF, ix_t0, ix_t1, ix_t2, ix_t3, isi_tt, isi_lt, isi_it, isi_ii, isi_bi, isi_bb, isi_ib, w_dct, wv_nil, wv_cons, w_app, w_rem, mQ_r, Nat.reduceAdd, Nat.zero_add, Nat.reduceMul, Nat.reduceSub, Int.reduceAdd, Int.reduceSub, Int.reduceMul, Int.reduceLT, Int.reduceLE, Int.reduceEq, Int.reduceBEq, Int.reduceNeg, Int.reduceToNat, Int.cast_ofNat_Int, decide_true, decide_false, Bool.not_true, Bool.not_false, beq_self_eq_true, Bool.true_and, Bool.and_true, true_and, and_true, is_value, bit_val (hb b hm)]
  · ((repeat' apply And.intro) <;> first | trivial | rfl | assumption | skip)
theorem wrong_tie (k : Nat) (S : Sto) (p : Nat) (rows : List (List Int)) (h1 : 1 ≤ p) (h4 : p ≤ 4) (hr : Rows p rows) (ha : Asc rows) : callN ds (k + 5) 22 [.d (tieD p rows)] S = .ok (.d .none) S := by
  refine eq_of_wp ?_
  rw [c_22]
  have e1 : decide ((1 : Int) ≤ (p : Int) ∧ (p : Int) ≤ 4) = true := by rw [decide_eq_true_eq]; omega
  simp only [d_22, retQ_rt, retQ_nx, tieD, rowsD, w_var, w_cst, w_gl, w_bin, w_neg, w_cmp, w_ix, w_call, w_bi, w_nil, w_cons, ws_nil, ws_cons, ws_pass, ws_doc, ws_ret, ws_retN, ws_expr, ws_set, ws_if, ws_for, wi_seq, ws_brk, ws_cont, w_not, w_isN, w_ntN, wq_and, wq_or, w_ife, w_chn, w_tup, w_lst, w_lstR, w_sl, wo_no, wo_yes, w_isi, w_lc, w_lcR, w_lc2, w_gen, w_frz, wi_rng1, wi_rng2, wi_zip, wi_zipS, wi_enm, ws_tp, ws_par, ws_setI, nxQ_nx, nxQ_rt, nxQ_bk, nxQ_ct, brQ_t, brQ_f, alQ_s, wp_ok, List.getElem?_cons_zero, List.getElem?_cons_succ, List.set_cons_zero, List.set_cons_succ, List.length_cons, List.length_nil, List.map_cons, List.map_nil, List.cons_append, List.nil_append, List.replicate_succ, List.replicate_zero, Bi.f, allD, Option.map_some, wb_add, wb_sub, wb_mul, wb_mod, wb_fdiv, tru_b, tru_i, cb_le, cb_lt, cb_ge, cb_gt, cb_eq, cb_ne, wc_of, brQ_b, if_true, if_false, Bool.false_eq_true, ft_l, ft_t, fl_l, fl_t, fi_i, ty_t, ty_l, ty_i, ty_b, w_truncF, ix_t0, ix_t1, ix_t2, ix_t3, isi_tt, isi_lt, isi_it, isi_ii, isi_bi, isi_bb, isi_ib, w_dct, wv_nil, wv_cons, w_app, w_rem, mQ_r, Nat.reduceAdd, Nat.zero_add, Nat.reduceMul, Nat.reduceSub, Int.reduceAdd, Int.reduceSub, Int.reduceMul, Int.reduceLT, Int.reduceLE, Int.reduceEq, Int.reduceBEq, Int.reduceNeg, Int.reduceToNat, Int.cast_ofNat_Int, decide_true, decide_false, Bool.not_true, Bool.not_false, beq_self_eq_true, Bool.true_and, Bool.and_true, true_and, and_true, is_number, e1, en_t, enumD_map]
  refine for_none (fun ρ => ∃ a b, ρ = [some (.d (.tuple [.int p, .tuple (rows.map rowD)])), a, b]) (fun q : List Int × Nat => .d (.tuple [.int q.2, rowD q.1])) (rows.zipIdx 0) _ ⟨_, _, rfl⟩ (fun ρ x hx h => ?_) fun ρ' h => ?_
  · obtain ⟨a, b, rfl⟩ := h
    obtain ⟨r, i⟩ := x
    refine ⟨_, rfl, ?_⟩
    have hm : r ∈ rows := List.fst_mem_of_mem_zipIdx hx
    have hv := is_values k S r p (hr.ln r hm) (hr.bt r hm)
    simp only [w_var, w_cst, w_gl, w_bin, w_neg, w_cmp, w_ix, w_call, w_bi, w_nil, w_cons, ws_nil, ws_cons, ws_pass, ws_doc, ws_ret, ws_retN, ws_expr, ws_set, ws_if, ws_for, wi_seq, ws_brk, ws_cont, w_not, w_isN, w_ntN, wq_and, wq_or, w_ife, w_chn, w_tup, w_lst, w_lstR, w_sl, wo_no, wo_yes, w_isi, w_lc, w_lcR, w_lc2, w_gen, w_frz, wi_rng1, wi_rng2, wi_zip, wi_zipS, wi_enm, ws_tp, ws_par, ws_setI, nxQ_nx, nxQ_rt, nxQ_bk, nxQ_ct, brQ_t, brQ_f, alQ_s, wp_ok, List.getElem?_cons_zero, List.getElem?_cons_succ, List.set_cons_zero, List.set_cons_succ, List.length_cons, List.length_nil, List.map_cons, List.map_nil, List.cons_append, List.nil_append, List.replicate_succ, List.replicate_zero, Bi.f, allD, Option.map_some, wb_add, wb_sub, wb_mul, wb_mod, wb_fdiv, tru_b, tru_i, cb_le, cb_lt, cb_ge, cb_gt, cb_eq, cb_ne, wc_of, brQ_b, if_true, if_false, Bool.false_eq_true, ft_l, ft_t, fl_l, fl_t, fi_i, ty_t, ty_l, ty_i, ty_b, w_truncF, ix_t0, ix_t1, ix_t2, ix_t3, isi_tt, isi_lt, isi_it, isi_ii, isi_bi, isi_bb, isi_ib, w_dct, wv_nil, wv_cons, w_app, w_rem, mQ_r, Nat.reduceAdd, Nat.zero_add, Nat.reduceMul, Nat.reduceSub, Int.reduceAdd, Int.reduceSub, Int.reduceMul, Int.reduceLT, Int.reduceLE, Int.reduceEq, Int.reduceBEq, Int.reduceNeg, Int.reduceToNat, Int.cast_ofNat_Int, decide_true, decide_false, Bool.not_true, Bool.not_false, beq_self_eq_true, Bool.true_and, Bool.and_true, true_and, and_true, hv]
    by_cases h0 : (0 : Int) < (i : Int)
    · rw [if_pos (decide_eq_true h0)]
      have hg : rows[i]? = some r := by simpa using List.mem_zipIdx_iff_getElem?.mp hx
      obtain ⟨q, hq⟩ : ∃ q, rows[i - 1]? = some q := ⟨_, List.getElem?_eq_getElem (by have := (List.getElem?_eq_some_iff.mp hg).1; omega)⟩
      have hlt : ltL q r = true := by
        obtain ⟨l1, e1⟩ := List.getElem?_eq_some_iff.mp hq
        obtain ⟨l2, e2⟩ := List.getElem?_eq_some_iff.mp hg
        have := List.pairwise_iff_getElem.mp ha (i - 1) i l1 l2 (by omega)
        rw [e1, e2] at this
        exact this
      rw [ix_t (d := rowD q) (atI_nat (by omega) (by rw [show ((i : Int) - 1).toNat = i - 1 by omega, List.getElem?_map, hq]; rfl))]
      simp only [cb_rge, hlt, w_var, w_cst, w_gl, w_bin, w_neg, w_cmp, w_ix, w_call, w_bi, w_nil, w_cons, ws_nil, ws_cons, ws_pass, ws_doc, ws_ret, ws_retN, ws_expr, ws_set, ws_if, ws_for, wi_seq, ws_brk, ws_cont, w_not, w_isN, w_ntN, wq_and, wq_or, w_ife, w_chn, w_tup, w_lst, w_lstR, w_sl, wo_no, wo_yes, w_isi, w_lc, w_lcR, w_lc2, w_gen, w_frz, wi_rng1, wi_rng2, wi_zip, wi_zipS, wi_enm, ws_tp, ws_par, ws_setI, nxQ_nx, nxQ_rt, nxQ_bk, nxQ_ct, brQ_t, brQ_f, alQ_s, wp_ok, List.getElem?_cons_zero, List.getElem?_cons_succ, List.set_cons_zero, List.set_cons_succ, List.length_cons, List.length_nil, List.map_cons, List.map_nil, List.cons_append, List.nil_append, List.replicate_succ, List.replicate_zero, Bi.f, allD, Option.map_some, wb_add, wb_sub, wb_mul, wb_mod, wb_fdiv, tru_b, tru_i, cb_le, cb_lt, cb_ge, cb_gt, cb_eq, cb_ne, wc_of, brQ_b, if_true, if_false, Bool.false_eq_true, ft_l, ft_t, fl_l, fl_t, fi_i, ty_t, ty_l, ty_i, ty_b, w_truncF, ix_t0, ix_t1, ix_t2, ix_t3, isi_tt, isi_lt, isi_it, isi_ii, isi_bi, isi_bb, isi_ib, w_dct, wv_nil, wv_cons, w_app, w_rem, mQ_r, Nat.reduceAdd, Nat.zero_add, Nat.reduceMul, Nat.reduceSub, Int.reduceAdd, Int.reduceSub, Int.reduceMul, Int.reduceLT, Int.reduceLE, Int.reduceEq, Int.reduceBEq, Int.reduceNeg, Int.reduceToNat, Int.cast_ofNat_Int, decide_true, decide_false, Bool.not_true, Bool.not_false, beq_self_eq_true, Bool.true_and, Bool.and_true, true_and, and_true]
      exact ⟨_, .inl rfl, _, _, rfl⟩
    · rw [if_neg (by rw [decide_eq_true_eq]; exact h0)]
      simp only [decide_eq_false h0, w_var, w_cst, w_gl, w_bin, w_neg, w_cmp, w_ix, w_call, w_bi, w_nil, w_cons, ws_nil, ws_cons, ws_pass, ws_doc, ws_ret, ws_retN, ws_expr, ws_set, ws_if, ws_for, wi_seq, ws_brk, ws_cont, w_not, w_isN, w_ntN, wq_and, wq_or, w_ife, w_chn, w_tup, w_lst, w_lstR, w_sl, wo_no, wo_yes, w_isi, w_lc, w_lcR, w_lc2, w_gen, w_frz, wi_rng1, wi_rng2, wi_zip, wi_zipS, wi_enm, ws_tp, ws_par, ws_setI, nxQ_nx, nxQ_rt, nxQ_bk, nxQ_ct, brQ_t, brQ_f, alQ_s, wp_ok, List.getElem?_cons_zero, List.getElem?_cons_succ, List.set_cons_zero, List.set_cons_succ, List.length_cons, List.length_nil, List.map_cons, List.map_nil, List.cons_append, List.nil_append, List.replicate_succ, List.replicate_zero, Bi.f, allD, Option.map_some, wb_add, wb_sub, wb_mul, wb_mod, wb_fdiv, tru_b, tru_i, cb_le, cb_lt, cb_ge, cb_gt, cb_eq, cb_ne, wc_of, brQ_b, if_true, if_false, Bool.false_eq_true, ft_l, ft_t, fl_l, fl_t, fi_i, ty_t, ty_l, ty_i, ty_b, w_truncF, ix_t0, ix_t1, ix_t2, ix_t3, isi_tt, isi_lt, isi_it, isi_ii, isi_bi, isi_bb, isi_ib, w_dct, wv_nil, wv_cons, w_app, w_rem, mQ_r, Nat.reduceAdd, Nat.zero_add, Nat.reduceMul, Nat.reduceSub, Int.reduceAdd, Int.reduceSub, Int.reduceMul, Int.reduceLT, Int.reduceLE, Int.reduceEq, Int.reduceBEq, Int.reduceNeg, Int.reduceToNat, Int.cast_ofNat_Int, decide_true, decide_false, Bool.not_true, Bool.not_false, beq_self_eq_true, Bool.true_and, Bool.and_true, true_and, and_true]
      exact ⟨_, .inl rfl, _, _, rfl⟩
  · obtain ⟨a, b, rfl⟩ := h
    simp only [w_var, w_cst, w_gl, w_bin, w_neg, w_cmp, w_ix, w_call, w_bi, w_nil, w_cons, ws_nil, ws_cons, ws_pass, ws_doc, ws_ret, ws_retN, ws_expr, ws_set, ws_if, ws_for, wi_seq, ws_brk, ws_cont, w_not, w_isN, w_ntN, wq_and, wq_or, w_ife, w_chn, w_tup, w_lst, w_lstR, w_sl, wo_no, wo_yes, w_isi, w_lc, w_lcR, w_lc2, w_gen, w_frz, wi_rng1, wi_rng2, wi_zip, wi_zipS, wi_enm, ws_tp, ws_par, ws_setI, nxQ_nx, nxQ_rt, nxQ_bk, nxQ_ct, brQ_t, brQ_f, alQ_s, wp_ok, List.getElem?_cons_zero, List.getElem?_cons_succ, List.set_cons_zero, List.set_cons_succ, List.length_cons, List.length_nil, List.map_cons, List.map_nil, List.cons_append, List.nil_append, List.replicate_succ, List.replicate_zero, Bi.f, allD, Option.map_some, wb_add, wb_sub, wb_mul, wb_mod, wb_fdiv, tru_b, tru_i, cb_le, cb_lt, cb_ge, cb_gt, cb_eq, cb_ne, wc_of, brQ_b, if_true, if_false, Bool.false_eq_true, ft_l, ft_t, fl_l, fl_t, fi_i, ty_t, ty_l, ty_i, ty_b, w_truncF, ix_t0, ix_t1, ix_t2, ix_t3, isi_tt, isi_lt, isi_it, isi_ii, isi_bi, isi_bb, isi_ib, w_dct, wv_nil, wv_cons, w_app, w_rem, mQ_r, Nat.reduceAdd, Nat.zero_add, Nat.reduceMul, Nat.reduceSub, Int.reduceAdd, Int.reduceSub, Int.reduceMul, Int.reduceLT, Int.reduceLE, Int.reduceEq, Int.reduceBEq, Int.reduceNeg, Int.reduceToNat, Int.cast_ofNat_Int, decide_true, decide_false, Bool.not_true, Bool.not_false, beq_self_eq_true, Bool.true_and, Bool.and_true, true_and, and_true]
theorem need_tie (k : Nat) (S : Sto) (p : Nat) (rows : List (List Int)) (h1 : 1 ≤ p) (h4 : p ≤ 4) (hr : Rows p rows) (ha : Asc rows) : callN ds (k + 6) 13 [.d (tieD p rows)] S = .ok (.d (tieD p rows)) S := by
  refine eq_of_wp ?_
  rw [c_13]
  simp only [d_13, retQ_rt, retQ_nx, w_var, w_cst, w_gl, w_bin, w_neg, w_cmp, w_ix, w_call, w_bi, w_nil, w_cons, ws_nil, ws_cons, ws_pass, ws_doc, ws_ret, ws_retN, ws_expr, ws_set, ws_if, ws_for, wi_seq, ws_brk, ws_cont, w_not, w_isN, w_ntN, wq_and, wq_or, w_ife, w_chn, w_tup, w_lst, w_lstR, w_sl, wo_no, wo_yes, w_isi, w_lc, w_lcR, w_lc2, w_gen, w_frz, wi_rng1, wi_rng2, wi_zip, wi_zipS, wi_enm, ws_tp, ws_par, ws_setI, nxQ_nx, nxQ_rt, nxQ_bk, nxQ_ct, brQ_t, brQ_f, alQ_s, wp_ok, List.getElem?_cons_zero, List.getElem?_cons_succ, List.set_cons_zero, List.set_cons_succ, List.length_cons, List.length_nil, List.map_cons, List.map_nil, List.cons_append, List.nil_append, List.replicate_succ, List.replicate_zero, Bi.f, allD, Option.map_some, wb_add, wb_sub, wb_mul, wb_mod, wb_fdiv, tru_b, tru_i, cb_le, cb_lt, cb_ge, cb_gt, cb_eq, cb_ne, wc_of, brQ_b, if_true, if_false, Bool.false_eq_true, ft_l, ft_t, fl_l, fl_t, fi_i, ty_t, ty_l, ty_i, ty_b, w_truncF, ix_t0, ix_t1, ix_t2, ix_t3, isi_tt, isi_lt, isi_it, isi_ii, isi_bi, isi_bb, isi_ib, w_dct, wv_nil, wv_cons, w_app, w_rem, mQ_r, Nat.reduceAdd, Nat.zero_add, Nat.reduceMul, Nat.reduceSub, Int.reduceAdd, Int.reduceSub, Int.reduceMul, Int.reduceLT, Int.reduceLE, Int.reduceEq, Int.reduceBEq, Int.reduceNeg, Int.reduceToNat, Int.cast_ofNat_Int, decide_true, decide_false, Bool.not_true, Bool.not_false, beq_self_eq_true, Bool.true_and, Bool.and_true, true_and, and_true, wrong_tie k S p rows h1 h4 hr ha, isNoneX]
theorem choices_of (k : Nat) (S : Sto) (rows : List (List Int)) (n : Nat) (hr : rows.length ≤ 16) (hn : n ≤ 4) (hs : rows.length ^ n ≤ 5000) :
    callN ds (k + 1) 25 [.d (rowsD rows), .d (.int n)] S = .ok (.d (.list ((choices rows n).map rowsD))) S := by
  refine eq_of_wp ?_
  rw [c_25]
  simp only [d_25, retQ_rt, retQ_nx, w_var, w_cst, w_gl, w_bin, w_neg, w_cmp, w_ix, w_call, w_bi, w_nil, w_cons, ws_nil, ws_cons, ws_pass, ws_doc, ws_ret, ws_retN, ws_expr, ws_set, ws_if, ws_for, wi_seq, ws_brk, ws_cont, w_not, w_isN, w_ntN, wq_and, wq_or, w_ife, w_chn, w_tup, w_lst, w_lstR, w_sl, wo_no, wo_yes, w_isi, w_lc, w_lcR, w_lc2, w_gen, w_frz, wi_rng1, wi_rng2, wi_zip, wi_zipS, wi_enm, ws_tp, ws_par, ws_setI, nxQ_nx, nxQ_rt, nxQ_bk, nxQ_ct, brQ_t, brQ_f, alQ_s, wp_ok, List.getElem?_cons_zero, List.getElem?_cons_succ, List.set_cons_zero, List.set_cons_succ, List.length_cons, List.length_nil, List.map_cons, List.map_nil, List.cons_append, List.nil_append, List.replicate_succ, List.replicate_zero, Bi.f, allD, Option.map_some, wb_add, wb_sub, wb_mul, wb_mod, wb_fdiv, tru_b, tru_i, cb_le, cb_lt, cb_ge, cb_gt, cb_eq, cb_ne, wc_of, brQ_b, if_true, if_false, Bool.false_eq_true, ft_l, ft_t, fl_l, fl_t, fi_i, ty_t, ty_l, ty_i, ty_b, w_truncF, ix_t0, ix_t1, ix_t2, ix_t3, isi_tt, isi_lt, isi_it, isi_ii, isi_bi, isi_bb, isi_ib, w_dct, wv_nil, wv_cons, w_app, w_rem, mQ_r, Nat.reduceAdd, Nat.zero_add, Nat.reduceMul, Nat.reduceSub, Int.reduceAdd, Int.reduceSub, Int.reduceMul, Int.reduceLT, Int.reduceLE, Int.reduceEq, Int.reduceBEq, Int.reduceNeg, Int.reduceToNat, Int.cast_ofNat_Int, decide_true, decide_false, Bool.not_true, Bool.not_false, beq_self_eq_true, Bool.true_and, Bool.and_true, true_and, and_true, rowsD]
  have hbig : n ≤ 16777216 := Nat.le_trans hn (by decide)
  rw [rg1 hbig]
  refine for_range (fun (i : Nat) ρ => ∃ a b c, ρ = [some (.d (.tuple (rows.map rowD))), some (.d (.int n)), some (.d (.list ((choices rows i).map rowsD))), a, b, c]) n ⟨none, none, none, rfl⟩ (fun i ρ hi h => ?_) fun ρ' h => ?_
  · obtain ⟨a, b, c, rfl⟩ := h
    refine ⟨_, rfl, ?_⟩
    simp only [w_var, w_cst, w_gl, w_bin, w_neg, w_cmp, w_ix, w_call, w_bi, w_nil, w_cons, ws_nil, ws_cons, ws_pass, ws_doc, ws_ret, ws_retN, ws_expr, ws_set, ws_if, ws_for, wi_seq, ws_brk, ws_cont, w_not, w_isN, w_ntN, wq_and, wq_or, w_ife, w_chn, w_tup, w_lst, w_lstR, w_sl, wo_no, wo_yes, w_isi, w_lc, w_lcR, w_lc2, w_gen, w_frz, wi_rng1, wi_rng2, wi_zip, wi_zipS, wi_enm, ws_tp, ws_par, ws_setI, nxQ_nx, nxQ_rt, nxQ_bk, nxQ_ct, brQ_t, brQ_f, alQ_s, wp_ok, List.getElem?_cons_zero, List.getElem?_cons_succ, List.set_cons_zero, List.set_cons_succ, List.length_cons, List.length_nil, List.map_cons, List.map_nil, List.cons_append, List.nil_append, List.replicate_succ, List.replicate_zero, Bi.f, allD, Option.map_some, wb_add, wb_sub, wb_mul, wb_mod, wb_fdiv, tru_b, tru_i, cb_le, cb_lt, cb_ge, cb_gt, cb_eq, cb_ne, wc_of, brQ_b, if_true, if_false, Bool.false_eq_true, ft_l, ft_t, fl_l, fl_t, fi_i, ty_t, ty_l, ty_i, ty_b, w_truncF, ix_t0, ix_t1, ix_t2, ix_t3, isi_tt, isi_lt, isi_it, isi_ii, isi_bi, isi_bb, isi_ib, w_dct, wv_nil, wv_cons, w_app, w_rem, mQ_r, Nat.reduceAdd, Nat.zero_add, Nat.reduceMul, Nat.reduceSub, Int.reduceAdd, Int.reduceSub, Int.reduceMul, Int.reduceLT, Int.reduceLE, Int.reduceEq, Int.reduceBEq, Int.reduceNeg, Int.reduceToNat, Int.cast_ofNat_Int, decide_true, decide_false, Bool.not_true, Bool.not_false, beq_self_eq_true, Bool.true_and, Bool.and_true, true_and, and_true, seqIt, List.map_map]
    refine lc2_pure (Xv.d ∘ rowsD) (Xv.d ∘ rowD) (fun _ => rows) (fun c r => rowsD (c ++ [r])) rows.length (choices rows i) [] (fun c hc => ⟨_, rfl, ?_, rfl, fun r hr => ⟨_, rfl, ?_⟩⟩) ?_ ?_
    · simp only [wipeR, w_var, w_cst, w_gl, w_bin, w_neg, w_cmp, w_ix, w_call, w_bi, w_nil, w_cons, ws_nil, ws_cons, ws_pass, ws_doc, ws_ret, ws_retN, ws_expr, ws_set, ws_if, ws_for, wi_seq, ws_brk, ws_cont, w_not, w_isN, w_ntN, wq_and, wq_or, w_ife, w_chn, w_tup, w_lst, w_lstR, w_sl, wo_no, wo_yes, w_isi, w_lc, w_lcR, w_lc2, w_gen, w_frz, wi_rng1, wi_rng2, wi_zip, wi_zipS, wi_enm, ws_tp, ws_par, ws_setI, nxQ_nx, nxQ_rt, nxQ_bk, nxQ_ct, brQ_t, brQ_f, alQ_s, wp_ok, List.getElem?_cons_zero, List.getElem?_cons_succ, List.set_cons_zero, List.set_cons_succ, List.length_cons, List.length_nil, List.map_cons, List.map_nil, List.cons_append, List.nil_append, List.replicate_succ, List.replicate_zero, Bi.f, allD, Option.map_some, wb_add, wb_sub, wb_mul, wb_mod, wb_fdiv, tru_b, tru_i, cb_le, cb_lt, cb_ge, cb_gt, cb_eq, cb_ne, wc_of, brQ_b, if_true, if_false, Bool.false_eq_true, ft_l, ft_t, fl_l, fl_t, fi_i, ty_t, ty_l, ty_i, ty_b, w_truncF, ix_t0, ix_t1, ix_t2, ix_t3, isi_tt, isi_lt, isi_it, isi_ii, isi_bi, isi_bb, isi_ib, w_dct, wv_nil, wv_cons, w_app, w_rem, mQ_r, Nat.reduceAdd, Nat.zero_add, Nat.reduceMul, Nat.reduceSub, Int.reduceAdd, Int.reduceSub, Int.reduceMul, Int.reduceLT, Int.reduceLE, Int.reduceEq, Int.reduceBEq, Int.reduceNeg, Int.reduceToNat, Int.cast_ofNat_Int, decide_true, decide_false, Bool.not_true, Bool.not_false, beq_self_eq_true, Bool.true_and, Bool.and_true, true_and, and_true, seqIt, List.map_map]
    · obtain ⟨hcl, _⟩ := choices_mem.mp hc
      simp only [Function.comp_def, Tg.ix, wipeR, w_var, w_cst, w_gl, w_bin, w_neg, w_cmp, w_ix, w_call, w_bi, w_nil, w_cons, ws_nil, ws_cons, ws_pass, ws_doc, ws_ret, ws_retN, ws_expr, ws_set, ws_if, ws_for, wi_seq, ws_brk, ws_cont, w_not, w_isN, w_ntN, wq_and, wq_or, w_ife, w_chn, w_tup, w_lst, w_lstR, w_sl, wo_no, wo_yes, w_isi, w_lc, w_lcR, w_lc2, w_gen, w_frz, wi_rng1, wi_rng2, wi_zip, wi_zipS, wi_enm, ws_tp, ws_par, ws_setI, nxQ_nx, nxQ_rt, nxQ_bk, nxQ_ct, brQ_t, brQ_f, alQ_s, wp_ok, List.getElem?_cons_zero, List.getElem?_cons_succ, List.set_cons_zero, List.set_cons_succ, List.length_cons, List.length_nil, List.map_cons, List.map_nil, List.cons_append, List.nil_append, List.replicate_succ, List.replicate_zero, Bi.f, allD, Option.map_some, wb_add, wb_sub, wb_mul, wb_mod, wb_fdiv, tru_b, tru_i, cb_le, cb_lt, cb_ge, cb_gt, cb_eq, cb_ne, wc_of, brQ_b, if_true, if_false, Bool.false_eq_true, ft_l, ft_t, fl_l, fl_t, fi_i, ty_t, ty_l, ty_i, ty_b, w_truncF, ix_t0, ix_t1, ix_t2, ix_t3, isi_tt, isi_lt, isi_it, isi_ii, isi_bi, isi_bb, isi_ib, w_dct, wv_nil, wv_cons, w_app, w_rem, mQ_r, Nat.reduceAdd, Nat.zero_add, Nat.reduceMul, Nat.reduceSub, Int.reduceAdd, Int.reduceSub, Int.reduceMul, Int.reduceLT, Int.reduceLE, Int.reduceEq, Int.reduceBEq, Int.reduceNeg, Int.reduceToNat, Int.cast_ofNat_Int, decide_true, decide_false, Bool.not_true, Bool.not_false, beq_self_eq_true, Bool.true_and, Bool.and_true, true_and, and_true]
      rw [show rowsD c = .tuple (c.map rowD) from rfl, wb_addT (by rw [List.length_map, hcl]; simp; omega)]
      simp only [rowsD, List.map_append, w_var, w_cst, w_gl, w_bin, w_neg, w_cmp, w_ix, w_call, w_bi, w_nil, w_cons, ws_nil, ws_cons, ws_pass, ws_doc, ws_ret, ws_retN, ws_expr, ws_set, ws_if, ws_for, wi_seq, ws_brk, ws_cont, w_not, w_isN, w_ntN, wq_and, wq_or, w_ife, w_chn, w_tup, w_lst, w_lstR, w_sl, wo_no, wo_yes, w_isi, w_lc, w_lcR, w_lc2, w_gen, w_frz, wi_rng1, wi_rng2, wi_zip, wi_zipS, wi_enm, ws_tp, ws_par, ws_setI, nxQ_nx, nxQ_rt, nxQ_bk, nxQ_ct, brQ_t, brQ_f, alQ_s, wp_ok, List.getElem?_cons_zero, List.getElem?_cons_succ, List.set_cons_zero, List.set_cons_succ, List.length_cons, List.length_nil, List.map_cons, List.map_nil, List.cons_append, List.nil_append, List.replicate_succ, List.replicate_zero, Bi.f, allD, Option.map_some, wb_add, wb_sub, wb_mul, wb_mod, wb_fdiv, tru_b, tru_i, cb_le, cb_lt, cb_ge, cb_gt, cb_eq, cb_ne, wc_of, brQ_b, if_true, if_false, Bool.false_eq_true, ft_l, ft_t, fl_l, fl_t, fi_i, ty_t, ty_l, ty_i, ty_b, w_truncF, ix_t0, ix_t1, ix_t2, ix_t3, isi_tt, isi_lt, isi_it, isi_ii, isi_bi, isi_bb, isi_ib, w_dct, wv_nil, wv_cons, w_app, w_rem, mQ_r, Nat.reduceAdd, Nat.zero_add, Nat.reduceMul, Nat.reduceSub, Int.reduceAdd, Int.reduceSub, Int.reduceMul, Int.reduceLT, Int.reduceLE, Int.reduceEq, Int.reduceBEq, Int.reduceNeg, Int.reduceToNat, Int.cast_ofNat_Int, decide_true, decide_false, Bool.not_true, Bool.not_false, beq_self_eq_true, Bool.true_and, Bool.and_true, true_and, and_true]
    · rw [choices_len, List.length_nil, Nat.zero_add, ← Nat.pow_succ, sizeLine_eq]
      rcases Nat.eq_zero_or_pos rows.length with h0 | h0
      · rw [h0, Nat.zero_pow (by omega)]; omega
      · exact Nat.le_trans (Nat.pow_le_pow_right h0 (by omega)) (Nat.le_trans hs (by decide))
    · refine ⟨rfl, _, .inl rfl, some (.d (.int i)), b, c, ?_⟩
      rw [List.nil_append, show choices rows (i + 1) = (choices rows i).flatMap fun c => rows.map fun r => c ++ [r] from rfl, List.map_flatMap]
      simp only [List.map_map]
      rfl
  · obtain ⟨a, b, c, rfl⟩ := h
    simp only [w_var, w_cst, w_gl, w_bin, w_neg, w_cmp, w_ix, w_call, w_bi, w_nil, w_cons, ws_nil, ws_cons, ws_pass, ws_doc, ws_ret, ws_retN, ws_expr, ws_set, ws_if, ws_for, wi_seq, ws_brk, ws_cont, w_not, w_isN, w_ntN, wq_and, wq_or, w_ife, w_chn, w_tup, w_lst, w_lstR, w_sl, wo_no, wo_yes, w_isi, w_lc, w_lcR, w_lc2, w_gen, w_frz, wi_rng1, wi_rng2, wi_zip, wi_zipS, wi_enm, ws_tp, ws_par, ws_setI, nxQ_nx, nxQ_rt, nxQ_bk, nxQ_ct, brQ_t, brQ_f, alQ_s, wp_ok, List.getElem?_cons_zero, List.getElem?_cons_succ, List.set_cons_zero, List.set_cons_succ, List.length_cons, List.length_nil, List.map_cons, List.map_nil, List.cons_append, List.nil_append, List.replicate_succ, List.replicate_zero, Bi.f, allD, Option.map_some, wb_add, wb_sub, wb_mul, wb_mod, wb_fdiv, tru_b, tru_i, cb_le, cb_lt, cb_ge, cb_gt, cb_eq, cb_ne, wc_of, brQ_b, if_true, if_false, Bool.false_eq_true, ft_l, ft_t, fl_l, fl_t, fi_i, ty_t, ty_l, ty_i, ty_b, w_truncF, ix_t0, ix_t1, ix_t2, ix_t3, isi_tt, isi_lt, isi_it, isi_ii, isi_bi, isi_bb, isi_ib, w_dct, wv_nil, wv_cons, w_app, w_rem, mQ_r, Nat.reduceAdd, Nat.zero_add, Nat.reduceMul, Nat.reduceSub, Int.reduceAdd, Int.reduceSub, Int.reduceMul, Int.reduceLT, Int.reduceLE, Int.reduceEq, Int.reduceBEq, Int.reduceNeg, Int.reduceToNat, Int.cast_ofNat_Int, decide_true, decide_false, Bool.not_true, Bool.not_false, beq_self_eq_true, Bool.true_and, Bool.and_true, true_and, and_true, rowsD]
/-- what a gate and a tie must be -/
structure GT (n : Nat) (vals : List Int) (p : Nat) (rows : List (List Int)) : Prop where
  n1 : 1 ≤ n
  n4 : n ≤ 4
  vl : vals.length = 2 ^ n
  vb : Bits vals
  p1 : 1 ≤ p
  p4 : p ≤ 4
  rr : Rows p rows
  ra : Asc rows
  rl : rows.length ≤ 16
  sz : rows.length ^ n ≤ 5000
theorem put_at {n : Nat} {vals : List Int} {p : Nat} {rows : List (List Int)} (g : GT n vals p rows) {c : List (List Int)} (hc : c ∈ choices rows n) : c ≠ [] ∧ c.length = n ∧ (∀ r ∈ c, r.length = p) ∧ ∀ r ∈ c, Bits r := by
  obtain ⟨h1, h2⟩ := choices_mem.mp hc
  refine ⟨fun z => ?_, h1, fun r hr => g.rr.ln r (h2 r hr), fun r hr => g.rr.bt r (h2 r hr)⟩
  rw [z] at h1
  have := g.n1
  rw [← h1] at this
  exact absurd this (by decide)
theorem broken_so (k : Nat) (S : Sto) (n : Nat) (vals : List Int) (p : Nat) (rows : List (List Int)) (g : GT n vals p rows) :
    callN ds (k + 4) 20 [.d (gateD n vals), .d (tieD p rows)] S = .ok (.d (optRows (brk n vals p rows))) S := by
  refine eq_of_wp ?_
  rw [c_20]
  have hch := choices_of (k + 2) S rows n g.rl g.n4 g.sz
  rw [show rowsD rows = .tuple (rows.map rowD) from rfl] at hch
  simp only [d_20, retQ_rt, retQ_nx, gateD, tieD, rowsD, w_var, w_cst, w_gl, w_bin, w_neg, w_cmp, w_ix, w_call, w_bi, w_nil, w_cons, ws_nil, ws_cons, ws_pass, ws_doc, ws_ret, ws_retN, ws_expr, ws_set, ws_if, ws_for, wi_seq, ws_brk, ws_cont, w_not, w_isN, w_ntN, wq_and, wq_or, w_ife, w_chn, w_tup, w_lst, w_lstR, w_sl, wo_no, wo_yes, w_isi, w_lc, w_lcR, w_lc2, w_gen, w_frz, wi_rng1, wi_rng2, wi_zip, wi_zipS, wi_enm, ws_tp, ws_par, ws_setI, nxQ_nx, nxQ_rt, nxQ_bk, nxQ_ct, brQ_t, brQ_f, alQ_s, wp_ok, List.getElem?_cons_zero, List.getElem?_cons_succ, List.set_cons_zero, List.set_cons_succ, List.length_cons, List.length_nil, List.map_cons, List.map_nil, List.cons_append, List.nil_append, List.replicate_succ, List.replicate_zero, Bi.f, allD, Option.map_some, wb_add, wb_sub, wb_mul, wb_mod, wb_fdiv, tru_b, tru_i, cb_le, cb_lt, cb_ge, cb_gt, cb_eq, cb_ne, wc_of, brQ_b, if_true, if_false, Bool.false_eq_true, ft_l, ft_t, fl_l, fl_t, fi_i, ty_t, ty_l, ty_i, ty_b, w_truncF, ix_t0, ix_t1, ix_t2, ix_t3, isi_tt, isi_lt, isi_it, isi_ii, isi_bi, isi_bb, isi_ib, w_dct, wv_nil, wv_cons, w_app, w_rem, mQ_r, Nat.reduceAdd, Nat.zero_add, Nat.reduceMul, Nat.reduceSub, Int.reduceAdd, Int.reduceSub, Int.reduceMul, Int.reduceLT, Int.reduceLE, Int.reduceEq, Int.reduceBEq, Int.reduceNeg, Int.reduceToNat, Int.cast_ofNat_Int, decide_true, decide_false, Bool.not_true, Bool.not_false, beq_self_eq_true, Bool.true_and, Bool.and_true, true_and, and_true, hch, seqIt, List.map_map]
  refine for_find (fun ρ => ∃ a, ρ = [some (.d (gateD n vals)), some (.d (tieD p rows)), a]) (Xv.d ∘ rowsD) (fun c => !rows.contains (putR vals p c)) (Xv.d ∘ rowsD) (choices rows n) _ ⟨none, rfl⟩ (fun ρ c hc h => ?_) ?_
  · obtain ⟨a, rfl⟩ := h
    refine ⟨_, rfl, ?_⟩
    obtain ⟨c0, cl, c1, c2⟩ := put_at g hc
    have hp := put_so k S vals c p c0 (by have := g.n4; omega) c1 c2 (by rw [g.vl, cl])
    rw [cl] at hp
    simp only [w_var, w_cst, w_gl, w_bin, w_neg, w_cmp, w_ix, w_call, w_bi, w_nil, w_cons, ws_nil, ws_cons, ws_pass, ws_doc, ws_ret, ws_retN, ws_expr, ws_set, ws_if, ws_for, wi_seq, ws_brk, ws_cont, w_not, w_isN, w_ntN, wq_and, wq_or, w_ife, w_chn, w_tup, w_lst, w_lstR, w_sl, wo_no, wo_yes, w_isi, w_lc, w_lcR, w_lc2, w_gen, w_frz, wi_rng1, wi_rng2, wi_zip, wi_zipS, wi_enm, ws_tp, ws_par, ws_setI, nxQ_nx, nxQ_rt, nxQ_bk, nxQ_ct, brQ_t, brQ_f, alQ_s, wp_ok, List.getElem?_cons_zero, List.getElem?_cons_succ, List.set_cons_zero, List.set_cons_succ, List.length_cons, List.length_nil, List.map_cons, List.map_nil, List.cons_append, List.nil_append, List.replicate_succ, List.replicate_zero, Bi.f, allD, Option.map_some, wb_add, wb_sub, wb_mul, wb_mod, wb_fdiv, tru_b, tru_i, cb_le, cb_lt, cb_ge, cb_gt, cb_eq, cb_ne, wc_of, brQ_b, if_true, if_false, Bool.false_eq_true, ft_l, ft_t, fl_l, fl_t, fi_i, ty_t, ty_l, ty_i, ty_b, w_truncF, ix_t0, ix_t1, ix_t2, ix_t3, isi_tt, isi_lt, isi_it, isi_ii, isi_bi, isi_bb, isi_ib, w_dct, wv_nil, wv_cons, w_app, w_rem, mQ_r, Nat.reduceAdd, Nat.zero_add, Nat.reduceMul, Nat.reduceSub, Int.reduceAdd, Int.reduceSub, Int.reduceMul, Int.reduceLT, Int.reduceLE, Int.reduceEq, Int.reduceBEq, Int.reduceNeg, Int.reduceToNat, Int.cast_ofNat_Int, decide_true, decide_false, Bool.not_true, Bool.not_false, beq_self_eq_true, Bool.true_and, Bool.and_true, true_and, and_true, Function.comp_def, hp]
    simp only [tieD, rowsD, w_var, w_cst, w_gl, w_bin, w_neg, w_cmp, w_ix, w_call, w_bi, w_nil, w_cons, ws_nil, ws_cons, ws_pass, ws_doc, ws_ret, ws_retN, ws_expr, ws_set, ws_if, ws_for, wi_seq, ws_brk, ws_cont, w_not, w_isN, w_ntN, wq_and, wq_or, w_ife, w_chn, w_tup, w_lst, w_lstR, w_sl, wo_no, wo_yes, w_isi, w_lc, w_lcR, w_lc2, w_gen, w_frz, wi_rng1, wi_rng2, wi_zip, wi_zipS, wi_enm, ws_tp, ws_par, ws_setI, nxQ_nx, nxQ_rt, nxQ_bk, nxQ_ct, brQ_t, brQ_f, alQ_s, wp_ok, List.getElem?_cons_zero, List.getElem?_cons_succ, List.set_cons_zero, List.set_cons_succ, List.length_cons, List.length_nil, List.map_cons, List.map_nil, List.cons_append, List.nil_append, List.replicate_succ, List.replicate_zero, Bi.f, allD, Option.map_some, wb_add, wb_sub, wb_mul, wb_mod, wb_fdiv, tru_b, tru_i, cb_le, cb_lt, cb_ge, cb_gt, cb_eq, cb_ne, wc_of, brQ_b, if_true, if_false, Bool.false_eq_true, ft_l, ft_t, fl_l, fl_t, fi_i, ty_t, ty_l, ty_i, ty_b, w_truncF, ix_t0, ix_t1, ix_t2, ix_t3, isi_tt, isi_lt, isi_it, isi_ii, isi_bi, isi_bb, isi_ib, w_dct, wv_nil, wv_cons, w_app, w_rem, mQ_r, Nat.reduceAdd, Nat.zero_add, Nat.reduceMul, Nat.reduceSub, Int.reduceAdd, Int.reduceSub, Int.reduceMul, Int.reduceLT, Int.reduceLE, Int.reduceEq, Int.reduceBEq, Int.reduceNeg, Int.reduceToNat, Int.cast_ofNat_Int, decide_true, decide_false, Bool.not_true, Bool.not_false, beq_self_eq_true, Bool.true_and, Bool.and_true, true_and, and_true, cb_nin]
    show if (!rows.contains (putR vals p c)) = true then _ else _
    by_cases h : (!rows.contains (putR vals p c)) = true
    · rw [if_pos h, if_pos h]; ((repeat' apply And.intro) <;> first | trivial | rfl | assumption | skip)
    · rw [if_neg h, if_neg h]; exact ⟨_, .inl rfl, some (.d (rowsD c)), rfl⟩
  · unfold brk
    cases (choices rows n).find? fun c => !rows.contains (putR vals p c) with
    | none =>
      rintro ρ ⟨a, rfl⟩
      simp only [w_var, w_cst, w_gl, w_bin, w_neg, w_cmp, w_ix, w_call, w_bi, w_nil, w_cons, ws_nil, ws_cons, ws_pass, ws_doc, ws_ret, ws_retN, ws_expr, ws_set, ws_if, ws_for, wi_seq, ws_brk, ws_cont, w_not, w_isN, w_ntN, wq_and, wq_or, w_ife, w_chn, w_tup, w_lst, w_lstR, w_sl, wo_no, wo_yes, w_isi, w_lc, w_lcR, w_lc2, w_gen, w_frz, wi_rng1, wi_rng2, wi_zip, wi_zipS, wi_enm, ws_tp, ws_par, ws_setI, nxQ_nx, nxQ_rt, nxQ_bk, nxQ_ct, brQ_t, brQ_f, alQ_s, wp_ok, List.getElem?_cons_zero, List.getElem?_cons_succ, List.set_cons_zero, List.set_cons_succ, List.length_cons, List.length_nil, List.map_cons, List.map_nil, List.cons_append, List.nil_append, List.replicate_succ, List.replicate_zero, Bi.f, allD, Option.map_some, wb_add, wb_sub, wb_mul, wb_mod, wb_fdiv, tru_b, tru_i, cb_le, cb_lt, cb_ge, cb_gt, cb_eq, cb_ne, wc_of, brQ_b, if_true, if_false, Bool.false_eq_true, ft_l, ft_t, fl_l, fl_t, fi_i, ty_t, ty_l, ty_i, ty_b, w_truncF, ix_t0, ix_t1, ix_t2, ix_t3, isi_tt, isi_lt, isi_it, isi_ii, isi_bi, isi_bb, isi_ib, w_dct, wv_nil, wv_cons, w_app, w_rem, mQ_r, Nat.reduceAdd, Nat.zero_add, Nat.reduceMul, Nat.reduceSub, Int.reduceAdd, Int.reduceSub, Int.reduceMul, Int.reduceLT, Int.reduceLE, Int.reduceEq, Int.reduceBEq, Int.reduceNeg, Int.reduceToNat, Int.cast_ofNat_Int, decide_true, decide_false, Bool.not_true, Bool.not_false, beq_self_eq_true, Bool.true_and, Bool.and_true, true_and, and_true]
      ((repeat' apply And.intro) <;> first | trivial | rfl | assumption | skip)
    | some c => simp only [w_var, w_cst, w_gl, w_bin, w_neg, w_cmp, w_ix, w_call, w_bi, w_nil, w_cons, ws_nil, ws_cons, ws_pass, ws_doc, ws_ret, ws_retN, ws_expr, ws_set, ws_if, ws_for, wi_seq, ws_brk, ws_cont, w_not, w_isN, w_ntN, wq_and, wq_or, w_ife, w_chn, w_tup, w_lst, w_lstR, w_sl, wo_no, wo_yes, w_isi, w_lc, w_lcR, w_lc2, w_gen, w_frz, wi_rng1, wi_rng2, wi_zip, wi_zipS, wi_enm, ws_tp, ws_par, ws_setI, nxQ_nx, nxQ_rt, nxQ_bk, nxQ_ct, brQ_t, brQ_f, alQ_s, wp_ok, List.getElem?_cons_zero, List.getElem?_cons_succ, List.set_cons_zero, List.set_cons_succ, List.length_cons, List.length_nil, List.map_cons, List.map_nil, List.cons_append, List.nil_append, List.replicate_succ, List.replicate_zero, Bi.f, allD, Option.map_some, wb_add, wb_sub, wb_mul, wb_mod, wb_fdiv, tru_b, tru_i, cb_le, cb_lt, cb_ge, cb_gt, cb_eq, cb_ne, wc_of, brQ_b, if_true, if_false, Bool.false_eq_true, ft_l, ft_t, fl_l, fl_t, fi_i, ty_t, ty_l, ty_i, ty_b, w_truncF, ix_t0, ix_t1, ix_t2, ix_t3, isi_tt, isi_lt, isi_it, isi_ii, isi_bi, isi_bb, isi_ib, w_dct, wv_nil, wv_cons, w_app, w_rem, mQ_r, Nat.reduceAdd, Nat.zero_add, Nat.reduceMul, Nat.reduceSub, Int.reduceAdd, Int.reduceSub, Int.reduceMul, Int.reduceLT, Int.reduceLE, Int.reduceEq, Int.reduceBEq, Int.reduceNeg, Int.reduceToNat, Int.cast_ofNat_Int, decide_true, decide_false, Bool.not_true, Bool.not_false, beq_self_eq_true, Bool.true_and, Bool.and_true, true_and, and_true]; ((repeat' apply And.intro) <;> first | trivial | rfl | assumption | skip)
def keepB (n : Nat) (vals : List Int) (p : Nat) (rows : List (List Int)) : Bool := (brk n vals p rows).isNone
theorem none_opt (o : Option (List (List Int))) : isNoneX (.d (optRows o)) = o.isNone := by cases o <;> rfl
theorem keeps_so (k : Nat) (S : Sto) (n : Nat) (vals : List Int) (p : Nat) (rows : List (List Int)) (g : GT n vals p rows) :
    callN ds (k + 5) 11 [.d (gateD n vals), .d (tieD p rows)] S = .ok (.d (.bool (keepB n vals p rows))) S := by
  refine eq_of_wp ?_
  rw [c_11]
  simp only [d_11, retQ_rt, retQ_nx, w_var, w_cst, w_gl, w_bin, w_neg, w_cmp, w_ix, w_call, w_bi, w_nil, w_cons, ws_nil, ws_cons, ws_pass, ws_doc, ws_ret, ws_retN, ws_expr, ws_set, ws_if, ws_for, wi_seq, ws_brk, ws_cont, w_not, w_isN, w_ntN, wq_and, wq_or, w_ife, w_chn, w_tup, w_lst, w_lstR, w_sl, wo_no, wo_yes, w_isi, w_lc, w_lcR, w_lc2, w_gen, w_frz, wi_rng1, wi_rng2, wi_zip, wi_zipS, wi_enm, ws_tp, ws_par, ws_setI, nxQ_nx, nxQ_rt, nxQ_bk, nxQ_ct, brQ_t, brQ_f, alQ_s, wp_ok, List.getElem?_cons_zero, List.getElem?_cons_succ, List.set_cons_zero, List.set_cons_succ, List.length_cons, List.length_nil, List.map_cons, List.map_nil, List.cons_append, List.nil_append, List.replicate_succ, List.replicate_zero, Bi.f, allD, Option.map_some, wb_add, wb_sub, wb_mul, wb_mod, wb_fdiv, tru_b, tru_i, cb_le, cb_lt, cb_ge, cb_gt, cb_eq, cb_ne, wc_of, brQ_b, if_true, if_false, Bool.false_eq_true, ft_l, ft_t, fl_l, fl_t, fi_i, ty_t, ty_l, ty_i, ty_b, w_truncF, ix_t0, ix_t1, ix_t2, ix_t3, isi_tt, isi_lt, isi_it, isi_ii, isi_bi, isi_bb, isi_ib, w_dct, wv_nil, wv_cons, w_app, w_rem, mQ_r, Nat.reduceAdd, Nat.zero_add, Nat.reduceMul, Nat.reduceSub, Int.reduceAdd, Int.reduceSub, Int.reduceMul, Int.reduceLT, Int.reduceLE, Int.reduceEq, Int.reduceBEq, Int.reduceNeg, Int.reduceToNat, Int.cast_ofNat_Int, decide_true, decide_false, Bool.not_true, Bool.not_false, beq_self_eq_true, Bool.true_and, Bool.and_true, true_and, and_true, broken_so k S n vals p rows g, none_opt]
  ((repeat' apply And.intro) <;> first | trivial | rfl | assumption | skip)
theorem keeps (k : Nat) (S : Sto) (n : Nat) (vals : List Int) (p : Nat) (rows : List (List Int)) (g : GT n vals p rows) :
    callN ds (k + 7) 2 [.d (gateD n vals), .d (tieD p rows)] S = .ok (.d (.bool (keepB n vals p rows))) S := by
  refine eq_of_wp ?_
  rw [c_2]
  simp only [d_2, retQ_rt, retQ_nx, w_var, w_cst, w_gl, w_bin, w_neg, w_cmp, w_ix, w_call, w_bi, w_nil, w_cons, ws_nil, ws_cons, ws_pass, ws_doc, ws_ret, ws_retN, ws_expr, ws_set, ws_if, ws_for, wi_seq, ws_brk, ws_cont, w_not, w_isN, w_ntN, wq_and, wq_or, w_ife, w_chn, w_tup, w_lst, w_lstR, w_sl, wo_no, wo_yes, w_isi, w_lc, w_lcR, w_lc2, w_gen, w_frz, wi_rng1, wi_rng2, wi_zip, wi_zipS, wi_enm, ws_tp, ws_par, ws_setI, nxQ_nx, nxQ_rt, nxQ_bk, nxQ_ct, brQ_t, brQ_f, alQ_s, wp_ok, List.getElem?_cons_zero, List.getElem?_cons_succ, List.set_cons_zero, List.set_cons_succ, List.length_cons, List.length_nil, List.map_cons, List.map_nil, List.cons_append, List.nil_append, List.replicate_succ, List.replicate_zero, Bi.f, allD, Option.map_some, wb_add, wb_sub, wb_mul, wb_mod, wb_fdiv, tru_b, tru_i, cb_le, cb_lt, cb_ge, cb_gt, cb_eq, cb_ne, wc_of, brQ_b, if_true, if_false, Bool.false_eq_true, ft_l, ft_t, fl_l, fl_t, fi_i, ty_t, ty_l, ty_i, ty_b, w_truncF, ix_t0, ix_t1, ix_t2, ix_t3, isi_tt, isi_lt, isi_it, isi_ii, isi_bi, isi_bb, isi_ib, w_dct, wv_nil, wv_cons, w_app, w_rem, mQ_r, Nat.reduceAdd, Nat.zero_add, Nat.reduceMul, Nat.reduceSub, Int.reduceAdd, Int.reduceSub, Int.reduceMul, Int.reduceLT, Int.reduceLE, Int.reduceEq, Int.reduceBEq, Int.reduceNeg, Int.reduceToNat, Int.cast_ofNat_Int, decide_true, decide_false, Bool.not_true, Bool.not_false, beq_self_eq_true, Bool.true_and, Bool.and_true, true_and, and_true, need_gate (k + 1) S n vals g.n1 g.n4 g.vl g.vb, need_tie k S p rows g.p1 g.p4 g.rr g.ra, keeps_so (k + 1) S n vals p rows g]
theorem broken_rows (k : Nat) (S : Sto) (n : Nat) (vals : List Int) (p : Nat) (rows : List (List Int)) (g : GT n vals p rows) :
    callN ds (k + 7) 7 [.d (gateD n vals), .d (tieD p rows)] S = .ok (.d (optRows (brk n vals p rows))) S := by
  refine eq_of_wp ?_
  rw [c_7]
  simp only [d_7, retQ_rt, retQ_nx, w_var, w_cst, w_gl, w_bin, w_neg, w_cmp, w_ix, w_call, w_bi, w_nil, w_cons, ws_nil, ws_cons, ws_pass, ws_doc, ws_ret, ws_retN, ws_expr, ws_set, ws_if, ws_for, wi_seq, ws_brk, ws_cont, w_not, w_isN, w_ntN, wq_and, wq_or, w_ife, w_chn, w_tup, w_lst, w_lstR, w_sl, wo_no, wo_yes, w_isi, w_lc, w_lcR, w_lc2, w_gen, w_frz, wi_rng1, wi_rng2, wi_zip, wi_zipS, wi_enm, ws_tp, ws_par, ws_setI, nxQ_nx, nxQ_rt, nxQ_bk, nxQ_ct, brQ_t, brQ_f, alQ_s, wp_ok, List.getElem?_cons_zero, List.getElem?_cons_succ, List.set_cons_zero, List.set_cons_succ, List.length_cons, List.length_nil, List.map_cons, List.map_nil, List.cons_append, List.nil_append, List.replicate_succ, List.replicate_zero, Bi.f, allD, Option.map_some, wb_add, wb_sub, wb_mul, wb_mod, wb_fdiv, tru_b, tru_i, cb_le, cb_lt, cb_ge, cb_gt, cb_eq, cb_ne, wc_of, brQ_b, if_true, if_false, Bool.false_eq_true, ft_l, ft_t, fl_l, fl_t, fi_i, ty_t, ty_l, ty_i, ty_b, w_truncF, ix_t0, ix_t1, ix_t2, ix_t3, isi_tt, isi_lt, isi_it, isi_ii, isi_bi, isi_bb, isi_ib, w_dct, wv_nil, wv_cons, w_app, w_rem, mQ_r, Nat.reduceAdd, Nat.zero_add, Nat.reduceMul, Nat.reduceSub, Int.reduceAdd, Int.reduceSub, Int.reduceMul, Int.reduceLT, Int.reduceLE, Int.reduceEq, Int.reduceBEq, Int.reduceNeg, Int.reduceToNat, Int.cast_ofNat_Int, decide_true, decide_false, Bool.not_true, Bool.not_false, beq_self_eq_true, Bool.true_and, Bool.and_true, true_and, and_true, need_gate (k + 1) S n vals g.n1 g.n4 g.vl g.vb, need_tie k S p rows g.p1 g.p4 g.rr g.ra, broken_so (k + 2) S n vals p rows g]
/-! ### numbers drawn -/
def mixF (c : Int) (k : Int) : Int := (c % 2147483647 * (48271 + 2 * k * k) + 69621 * k + 11) % 2147483647 * 69621 % 2147483629
theorem mixed_so (k : Nat) (S : Sto) (c i : Int) (h0 : 0 ≤ i) (h1 : i ≤ 2000000) : callN ds (k + 1) 23 [.d (.int c), .d (.int i)] S = .ok (.d (.int (mixF c i))) S := by
  refine eq_of_wp ?_
  rw [c_23]
  simp only [d_23, retQ_rt, retQ_nx, w_var, w_cst, w_gl, w_bin, w_neg, w_cmp, w_ix, w_call, w_bi, w_nil, w_cons, ws_nil, ws_cons, ws_pass, ws_doc, ws_ret, ws_retN, ws_expr, ws_set, ws_if, ws_for, wi_seq, ws_brk, ws_cont, w_not, w_isN, w_ntN, wq_and, wq_or, w_ife, w_chn, w_tup, w_lst, w_lstR, w_sl, wo_no, wo_yes, w_isi, w_lc, w_lcR, w_lc2, w_gen, w_frz, wi_rng1, wi_rng2, wi_zip, wi_zipS, wi_enm, ws_tp, ws_par, ws_setI, nxQ_nx, nxQ_rt, nxQ_bk, nxQ_ct, brQ_t, brQ_f, alQ_s, wp_ok, List.getElem?_cons_zero, List.getElem?_cons_succ, List.set_cons_zero, List.set_cons_succ, List.length_cons, List.length_nil, List.map_cons, List.map_nil, List.cons_append, List.nil_append, List.replicate_succ, List.replicate_zero, Bi.f, allD, Option.map_some, wb_add, wb_sub, wb_mul, wb_mod, wb_fdiv, tru_b, tru_i, cb_le, cb_lt, cb_ge, cb_gt, cb_eq, cb_ne, wc_of, brQ_b, if_true, if_false, Bool.false_eq_true, ft_l, ft_t, fl_l, fl_t, fi_i, ty_t, ty_l, ty_i, ty_b, w_truncF, ix_t0, ix_t1, ix_t2, ix_t3, isi_tt, isi_lt, isi_it, isi_ii, isi_bi, isi_bb, isi_ib, w_dct, wv_nil, wv_cons, w_app, w_rem, mQ_r, Nat.reduceAdd, Nat.zero_add, Nat.reduceMul, Nat.reduceSub, Int.reduceAdd, Int.reduceSub, Int.reduceMul, Int.reduceLT, Int.reduceLE, Int.reduceEq, Int.reduceBEq, Int.reduceNeg, Int.reduceToNat, Int.cast_ofNat_Int, decide_true, decide_false, Bool.not_true, Bool.not_false, beq_self_eq_true, Bool.true_and, Bool.and_true, true_and, and_true]
  have a1 : 0 ≤ c % 2147483647 := Int.emod_nonneg _ (by decide)
  have a2 : c % 2147483647 < 2147483647 := Int.emod_lt_of_pos _ (by decide)
  exact ⟨.inl (by decide), .inr (by omega), .inl (by omega), .inl (by decide), .inr (by decide), rfl⟩
theorem begin_so (k : Nat) (ns : List Int) (hl : ns.length ≤ 63) : ∃ b : Bs, b.Ok 0 ∧ callN ds (k + 1) 10 [.r 0] (script0 ns) = .ok (.r 2) b.sto := by
  have e0 : allD (ns.map fun n => Xv.d (.int n)) = some (ns.map .int) := allD_ints ns
  have key : ∀ (cs : List Int) (b : Bs), 1 ≤ cs.length → b = ⟨ns, cs, cs.map fun c => if 1000000000000000000 ≤ c then c else 0, 0⟩ → wp (denSs (callN ds k) (match d_10.body with
      | .cons _ ss => ss
      | ss => ss) [some (.r 0), some (.d (.list (cs.map .int))), none] (script0 ns)) (retQ true (script0 ns).length (fun x S' => x = .r 2 ∧ S' = b.sto)) := by
    intro cs b h1 hb
    unfold d_10
    simp only [retQ_rt, retQ_nx, w_var, w_cst, w_gl, w_bin, w_neg, w_cmp, w_ix, w_call, w_bi, w_nil, w_cons, ws_nil, ws_cons, ws_pass, ws_doc, ws_ret, ws_retN, ws_expr, ws_set, ws_if, ws_for, wi_seq, ws_brk, ws_cont, w_not, w_isN, w_ntN, wq_and, wq_or, w_ife, w_chn, w_tup, w_lst, w_lstR, w_sl, wo_no, wo_yes, w_isi, w_lc, w_lcR, w_lc2, w_gen, w_frz, wi_rng1, wi_rng2, wi_zip, wi_zipS, wi_enm, ws_tp, ws_par, ws_setI, nxQ_nx, nxQ_rt, nxQ_bk, nxQ_ct, brQ_t, brQ_f, alQ_s, wp_ok, List.getElem?_cons_zero, List.getElem?_cons_succ, List.set_cons_zero, List.set_cons_succ, List.length_cons, List.length_nil, List.map_cons, List.map_nil, List.cons_append, List.nil_append, List.replicate_succ, List.replicate_zero, Bi.f, allD, Option.map_some, wb_add, wb_sub, wb_mul, wb_mod, wb_fdiv, tru_b, tru_i, cb_le, cb_lt, cb_ge, cb_gt, cb_eq, cb_ne, wc_of, brQ_b, if_true, if_false, Bool.false_eq_true, ft_l, ft_t, fl_l, fl_t, fi_i, ty_t, ty_l, ty_i, ty_b, w_truncF, ix_t0, ix_t1, ix_t2, ix_t3, isi_tt, isi_lt, isi_it, isi_ii, isi_bi, isi_bb, isi_ib, w_dct, wv_nil, wv_cons, w_app, w_rem, mQ_r, Nat.reduceAdd, Nat.zero_add, Nat.reduceMul, Nat.reduceSub, Int.reduceAdd, Int.reduceSub, Int.reduceMul, Int.reduceLT, Int.reduceLE, Int.reduceEq, Int.reduceBEq, Int.reduceNeg, Int.reduceToNat, Int.cast_ofNat_Int, decide_true, decide_false, Bool.not_true, Bool.not_false, beq_self_eq_true, Bool.true_and, Bool.and_true, true_and, and_true, seqIt, List.map_map]
    refine lc_map (Xv.d ∘ PyData.int) (fun c => .int (if 1000000000000000000 ≤ c then c else 0)) cs (fun c _ => ⟨_, rfl, ?_⟩) ?_
    · simp only [Function.comp_def, wipeR, w_var, w_cst, w_gl, w_bin, w_neg, w_cmp, w_ix, w_call, w_bi, w_nil, w_cons, ws_nil, ws_cons, ws_pass, ws_doc, ws_ret, ws_retN, ws_expr, ws_set, ws_if, ws_for, wi_seq, ws_brk, ws_cont, w_not, w_isN, w_ntN, wq_and, wq_or, w_ife, w_chn, w_tup, w_lst, w_lstR, w_sl, wo_no, wo_yes, w_isi, w_lc, w_lcR, w_lc2, w_gen, w_frz, wi_rng1, wi_rng2, wi_zip, wi_zipS, wi_enm, ws_tp, ws_par, ws_setI, nxQ_nx, nxQ_rt, nxQ_bk, nxQ_ct, brQ_t, brQ_f, alQ_s, wp_ok, List.getElem?_cons_zero, List.getElem?_cons_succ, List.set_cons_zero, List.set_cons_succ, List.length_cons, List.length_nil, List.map_cons, List.map_nil, List.cons_append, List.nil_append, List.replicate_succ, List.replicate_zero, Bi.f, allD, Option.map_some, wb_add, wb_sub, wb_mul, wb_mod, wb_fdiv, tru_b, tru_i, cb_le, cb_lt, cb_ge, cb_gt, cb_eq, cb_ne, wc_of, brQ_b, if_true, if_false, Bool.false_eq_true, ft_l, ft_t, fl_l, fl_t, fi_i, ty_t, ty_l, ty_i, ty_b, w_truncF, ix_t0, ix_t1, ix_t2, ix_t3, isi_tt, isi_lt, isi_it, isi_ii, isi_bi, isi_bb, isi_ib, w_dct, wv_nil, wv_cons, w_app, w_rem, mQ_r, Nat.reduceAdd, Nat.zero_add, Nat.reduceMul, Nat.reduceSub, Int.reduceAdd, Int.reduceSub, Int.reduceMul, Int.reduceLT, Int.reduceLE, Int.reduceEq, Int.reduceBEq, Int.reduceNeg, Int.reduceToNat, Int.cast_ofNat_Int, decide_true, decide_false, Bool.not_true, Bool.not_false, beq_self_eq_true, Bool.true_and, Bool.and_true, true_and, and_true]
      rw [wb_pow (by decide) (by decide) (by decide)]
      simp only [w_var, w_cst, w_gl, w_bin, w_neg, w_cmp, w_ix, w_call, w_bi, w_nil, w_cons, ws_nil, ws_cons, ws_pass, ws_doc, ws_ret, ws_retN, ws_expr, ws_set, ws_if, ws_for, wi_seq, ws_brk, ws_cont, w_not, w_isN, w_ntN, wq_and, wq_or, w_ife, w_chn, w_tup, w_lst, w_lstR, w_sl, wo_no, wo_yes, w_isi, w_lc, w_lcR, w_lc2, w_gen, w_frz, wi_rng1, wi_rng2, wi_zip, wi_zipS, wi_enm, ws_tp, ws_par, ws_setI, nxQ_nx, nxQ_rt, nxQ_bk, nxQ_ct, brQ_t, brQ_f, alQ_s, wp_ok, List.getElem?_cons_zero, List.getElem?_cons_succ, List.set_cons_zero, List.set_cons_succ, List.length_cons, List.length_nil, List.map_cons, List.map_nil, List.cons_append, List.nil_append, List.replicate_succ, List.replicate_zero, Bi.f, allD, Option.map_some, wb_add, wb_sub, wb_mul, wb_mod, wb_fdiv, tru_b, tru_i, cb_le, cb_lt, cb_ge, cb_gt, cb_eq, cb_ne, wc_of, brQ_b, if_true, if_false, Bool.false_eq_true, ft_l, ft_t, fl_l, fl_t, fi_i, ty_t, ty_l, ty_i, ty_b, w_truncF, ix_t0, ix_t1, ix_t2, ix_t3, isi_tt, isi_lt, isi_it, isi_ii, isi_bi, isi_bb, isi_ib, w_dct, wv_nil, wv_cons, w_app, w_rem, mQ_r, Nat.reduceAdd, Nat.zero_add, Nat.reduceMul, Nat.reduceSub, Int.reduceAdd, Int.reduceSub, Int.reduceMul, Int.reduceLT, Int.reduceLE, Int.reduceEq, Int.reduceBEq, Int.reduceNeg, Int.reduceToNat, Int.cast_ofNat_Int, decide_true, decide_false, Bool.not_true, Bool.not_false, beq_self_eq_true, Bool.true_and, Bool.and_true, true_and, and_true]
      show if decide (1000000000000000000 ≤ c) = true then _ else _
      by_cases h : 1000000000000000000 ≤ c
      · rw [if_pos (decide_eq_true h), if_pos h]
      · rw [if_neg (by rw [decide_eq_true_eq]; exact h), if_neg h]
    · rw [kv3_all]
      subst hb
      show wp (trunc (List.length (script0 ns)) (.r 2) _) _
      unfold trunc
      dsimp only
      rw [if_pos ?_]
      · show _ = _ ∧ _ = _
        refine ⟨rfl, ?_⟩
        simp [script0, Bs.sto, intsX]
      · simp [script0, kv3, clsO, clsX]
  have fin : ∀ (cs : List Int), 1 ≤ cs.length → cs.length ≤ 63 → wp (callN ds (k + 1) 10 [.r 0] (script0 ns)) (fun x S' => x = .r 2 ∧ S' = (Bs.sto ⟨ns, cs, cs.map fun c => if 1000000000000000000 ≤ c then c else 0, 0⟩)) →
      ∃ b : Bs, b.Ok 0 ∧ callN ds (k + 1) 10 [.r 0] (script0 ns) = .ok (.r 2) b.sto := by
    intro cs h1 h2 h
    exact ⟨_, ⟨by simp, h1, h2, Nat.le_refl _⟩, eq_of_wp h⟩
  have e1 : datOf (script0 ns) (.r 0) = some (.list (ns.map .int)) := by
    unfold datOf script0
    simp only [List.getElem?_cons_zero, e0, Option.map_some]
  have e2 : pCmpB .ne (.r 0) (.d (.list [])) (script0 ns) = some (!ns.isEmpty) := by
    show Option.map (fun x => !x) (pEq (.r 0) (.d (.list [])) (script0 ns)) = _
    unfold pEq
    rw [e1]
    have h1 : shD (.list (ns.map .int)) = true := by
      unfold shD SeqAt.shaped
      rw [PyData.canLay0, cl_ints, PyData.depth, dp_ints]; rfl
    simp only [datOf, h1, bothStr, Bool.false_or, Bool.true_and]
    rw [show shD (.list []) = true from rfl, if_pos rfl]
    cases ns <;> rfl
  cases hn : ns with
  | nil =>
    subst hn
    refine fin [0] (by decide) (by decide) ?_
    have := key [0] _ (by decide) rfl
    rw [c_10]
    unfold d_10 at this ⊢
    simp only [w_var, w_cst, w_gl, w_bin, w_neg, w_cmp, w_ix, w_call, w_bi, w_nil, w_cons, ws_nil, ws_cons, ws_pass, ws_doc, ws_ret, ws_retN, ws_expr, ws_set, ws_if, ws_for, wi_seq, ws_brk, ws_cont, w_not, w_isN, w_ntN, wq_and, wq_or, w_ife, w_chn, w_tup, w_lst, w_lstR, w_sl, wo_no, wo_yes, w_isi, w_lc, w_lcR, w_lc2, w_gen, w_frz, wi_rng1, wi_rng2, wi_zip, wi_zipS, wi_enm, ws_tp, ws_par, ws_setI, nxQ_nx, nxQ_rt, nxQ_bk, nxQ_ct, brQ_t, brQ_f, alQ_s, wp_ok, List.getElem?_cons_zero, List.getElem?_cons_succ, List.set_cons_zero, List.set_cons_succ, List.length_cons, List.length_nil, List.map_cons, List.map_nil, List.cons_append, List.nil_append, List.replicate_succ, List.replicate_zero, Bi.f, allD, Option.map_some, wb_add, wb_sub, wb_mul, wb_mod, wb_fdiv, tru_b, tru_i, cb_le, cb_lt, cb_ge, cb_gt, cb_eq, cb_ne, wc_of, brQ_b, if_true, if_false, Bool.false_eq_true, ft_l, ft_t, fl_l, fl_t, fi_i, ty_t, ty_l, ty_i, ty_b, w_truncF, ix_t0, ix_t1, ix_t2, ix_t3, isi_tt, isi_lt, isi_it, isi_ii, isi_bi, isi_bb, isi_ib, w_dct, wv_nil, wv_cons, w_app, w_rem, mQ_r, Nat.reduceAdd, Nat.zero_add, Nat.reduceMul, Nat.reduceSub, Int.reduceAdd, Int.reduceSub, Int.reduceMul, Int.reduceLT, Int.reduceLE, Int.reduceEq, Int.reduceBEq, Int.reduceNeg, Int.reduceToNat, Int.cast_ofNat_Int, decide_true, decide_false, Bool.not_true, Bool.not_false, beq_self_eq_true, Bool.true_and, Bool.and_true, true_and, and_true] at this ⊢
    rw [e2]
    exact this
  | cons z zs =>
    rw [← hn]
    have h1 : 1 ≤ ns.length := by rw [hn]; simp
    refine fin ns h1 hl ?_
    have := key ns _ h1 rfl
    rw [c_10]
    unfold d_10 at this ⊢
    simp only [w_var, w_cst, w_gl, w_bin, w_neg, w_cmp, w_ix, w_call, w_bi, w_nil, w_cons, ws_nil, ws_cons, ws_pass, ws_doc, ws_ret, ws_retN, ws_expr, ws_set, ws_if, ws_for, wi_seq, ws_brk, ws_cont, w_not, w_isN, w_ntN, wq_and, wq_or, w_ife, w_chn, w_tup, w_lst, w_lstR, w_sl, wo_no, wo_yes, w_isi, w_lc, w_lcR, w_lc2, w_gen, w_frz, wi_rng1, wi_rng2, wi_zip, wi_zipS, wi_enm, ws_tp, ws_par, ws_setI, nxQ_nx, nxQ_rt, nxQ_bk, nxQ_ct, brQ_t, brQ_f, alQ_s, wp_ok, List.getElem?_cons_zero, List.getElem?_cons_succ, List.set_cons_zero, List.set_cons_succ, List.length_cons, List.length_nil, List.map_cons, List.map_nil, List.cons_append, List.nil_append, List.replicate_succ, List.replicate_zero, Bi.f, allD, Option.map_some, wb_add, wb_sub, wb_mul, wb_mod, wb_fdiv, tru_b, tru_i, cb_le, cb_lt, cb_ge, cb_gt, cb_eq, cb_ne, wc_of, brQ_b, if_true, if_false, Bool.false_eq_true, ft_l, ft_t, fl_l, fl_t, fi_i, ty_t, ty_l, ty_i, ty_b, w_truncF, ix_t0, ix_t1, ix_t2, ix_t3, isi_tt, isi_lt, isi_it, isi_ii, isi_bi, isi_bb, isi_ib, w_dct, wv_nil, wv_cons, w_app, w_rem, mQ_r, Nat.reduceAdd, Nat.zero_add, Nat.reduceMul, Nat.reduceSub, Int.reduceAdd, Int.reduceSub, Int.reduceMul, Int.reduceLT, Int.reduceLE, Int.reduceEq, Int.reduceBEq, Int.reduceNeg, Int.reduceToNat, Int.cast_ofNat_Int, decide_true, decide_false, Bool.not_true, Bool.not_false, beq_self_eq_true, Bool.true_and, Bool.and_true, true_and, and_true] at this ⊢
    rw [e2, show ns.isEmpty = false by rw [hn]; rfl]
    have e3 : seqX (script0 ns) (.r 0) = some (ns.map .int) := by
      unfold seqX script0
      simp only [List.getElem?_cons_zero, e0]
    have e4 : ∀ Q, wp (fLst [.r 0] (script0 ns)) Q = Q (.d (.list (ns.map .int))) (script0 ns) := fun Q => by
      unfold fLst
      dsimp only
      rw [e3]
      rfl
    simp only [w_var, w_cst, w_gl, w_bin, w_neg, w_cmp, w_ix, w_call, w_bi, w_nil, w_cons, ws_nil, ws_cons, ws_pass, ws_doc, ws_ret, ws_retN, ws_expr, ws_set, ws_if, ws_for, wi_seq, ws_brk, ws_cont, w_not, w_isN, w_ntN, wq_and, wq_or, w_ife, w_chn, w_tup, w_lst, w_lstR, w_sl, wo_no, wo_yes, w_isi, w_lc, w_lcR, w_lc2, w_gen, w_frz, wi_rng1, wi_rng2, wi_zip, wi_zipS, wi_enm, ws_tp, ws_par, ws_setI, nxQ_nx, nxQ_rt, nxQ_bk, nxQ_ct, brQ_t, brQ_f, alQ_s, wp_ok, List.getElem?_cons_zero, List.getElem?_cons_succ, List.set_cons_zero, List.set_cons_succ, List.length_cons, List.length_nil, List.map_cons, List.map_nil, List.cons_append, List.nil_append, List.replicate_succ, List.replicate_zero, Bi.f, allD, Option.map_some, wb_add, wb_sub, wb_mul, wb_mod, wb_fdiv, tru_b, tru_i, cb_le, cb_lt, cb_ge, cb_gt, cb_eq, cb_ne, wc_of, brQ_b, if_true, if_false, Bool.false_eq_true, ft_l, ft_t, fl_l, fl_t, fi_i, ty_t, ty_l, ty_i, ty_b, w_truncF, ix_t0, ix_t1, ix_t2, ix_t3, isi_tt, isi_lt, isi_it, isi_ii, isi_bi, isi_bb, isi_ib, w_dct, wv_nil, wv_cons, w_app, w_rem, mQ_r, Nat.reduceAdd, Nat.zero_add, Nat.reduceMul, Nat.reduceSub, Int.reduceAdd, Int.reduceSub, Int.reduceMul, Int.reduceLT, Int.reduceLE, Int.reduceEq, Int.reduceBEq, Int.reduceNeg, Int.reduceToNat, Int.cast_ofNat_Int, decide_true, decide_false, Bool.not_true, Bool.not_false, beq_self_eq_true, Bool.true_and, Bool.and_true, true_and, and_true, e4]
    exact this
theorem draw_so (k : Nat) (b : Bs) (n : Nat) (T : Sto) (m : Int) (hb : b.Ok n) (hn : n ≤ 1000000) (h0 : 0 < m) (h1 : m < 1073741824) :
    ∃ v : Int × Bs, (0 ≤ v.1 ∧ v.1 < m ∧ v.2.Ok (n + 1)) ∧ callN ds (k + 2) 16 [.r 2, .d (.int m)] (b.sto ++ T) = .ok (.d (.int v.1)) (v.2.sto ++ T) := by
  obtain ⟨hle, hc1, hc2, hat⟩ := hb
  have e2 : (b.sto ++ T)[2]? = some (.dct (kv3 (.d (.list (b.cs.map .int))) (.r 1) (.d (.int b.at_)))) := rfl
  generalize hb1 : ({ b with at_ := b.at_ + 1 } : Bs) = b1
  have e3 : (b.sto ++ T).set 2 (.dct (kv3 (.d (.list (b.cs.map .int))) (.r 1) (.d (.int ((b.at_ : Int) + 1))))) = b1.sto ++ T := by rw [← hb1]; rfl
  have e4 : (b1.sto ++ T)[2]? = some (.dct (kv3 (.d (.list (b.cs.map .int))) (.r 1) (.d (.int ((b.at_ : Int) + 1))))) := by rw [← hb1]; rfl
  have e5 : (b1.sto ++ T)[1]? = some (.lst (intsX b.ls)) := by rw [← hb1]; rfl
  have hm0 : (0 : Int) < ((b.cs.map PyData.int).length : Int) := by rw [List.length_map]; omega
  have hp1 : 0 ≤ (b.at_ : Int) % ((b.cs.map PyData.int).length : Int) := Int.emod_nonneg _ (by omega)
  have hp2 : (b.at_ : Int) % ((b.cs.map PyData.int).length : Int) < ((b.cs.map PyData.int).length : Int) := Int.emod_lt_of_pos _ hm0
  generalize hp : (b.at_ : Int) % ((b.cs.map PyData.int).length : Int) = p at hp1 hp2
  rw [List.length_map] at hp2
  have hpl : p.toNat < b.ls.length := by omega
  have hpc : p.toNat < b.cs.length := by omega
  have ea : atI (intsX b.ls) p = some (.d (.int (b.ls[p.toNat]))) := atI_nat hp1 (by unfold intsX; rw [List.getElem?_map, List.getElem?_eq_getElem hpl]; rfl)
  have ec : atI (b.cs.map PyData.int) p = some (.int (b.cs[p.toNat])) := atI_nat hp1 (by rw [List.getElem?_map, List.getElem?_eq_getElem hpc]; rfl)
  have ei : ixN (intsX b.ls).length p = some p.toNat := by
    unfold ixN intsX
    rw [if_pos hp1, if_pos (by rw [List.length_map]; omega)]
  by_cases hl : 0 < b.ls[p.toNat]
  · refine ⟨(b.ls[p.toNat] % m, { b1 with ls := b.ls.set p.toNat (b.ls[p.toNat] / m) }), ⟨Int.emod_nonneg _ (by omega), Int.emod_lt_of_pos _ h0, ?_⟩, eq_of_wp ?_⟩
    · subst hb1
      exact ⟨by rw [List.length_set]; exact hle, hc1, hc2, Nat.succ_le_succ hat⟩
    · rw [c_16]
      simp only [d_16, retQ_rt, retQ_nx, w_var, w_cst, w_gl, w_bin, w_neg, w_cmp, w_ix, w_call, w_bi, w_nil, w_cons, ws_nil, ws_cons, ws_pass, ws_doc, ws_ret, ws_retN, ws_expr, ws_set, ws_if, ws_for, wi_seq, ws_brk, ws_cont, w_not, w_isN, w_ntN, wq_and, wq_or, w_ife, w_chn, w_tup, w_lst, w_lstR, w_sl, wo_no, wo_yes, w_isi, w_lc, w_lcR, w_lc2, w_gen, w_frz, wi_rng1, wi_rng2, wi_zip, wi_zipS, wi_enm, ws_tp, ws_par, ws_setI, nxQ_nx, nxQ_rt, nxQ_bk, nxQ_ct, brQ_t, brQ_f, alQ_s, wp_ok, List.getElem?_cons_zero, List.getElem?_cons_succ, List.set_cons_zero, List.set_cons_succ, List.length_cons, List.length_nil, List.map_cons, List.map_nil, List.cons_append, List.nil_append, List.replicate_succ, List.replicate_zero, Bi.f, allD, Option.map_some, wb_add, wb_sub, wb_mul, wb_mod, wb_fdiv, tru_b, tru_i, cb_le, cb_lt, cb_ge, cb_gt, cb_eq, cb_ne, wc_of, brQ_b, if_true, if_false, Bool.false_eq_true, ft_l, ft_t, fl_l, fl_t, fi_i, ty_t, ty_l, ty_i, ty_b, w_truncF, ix_t0, ix_t1, ix_t2, ix_t3, isi_tt, isi_lt, isi_it, isi_ii, isi_bi, isi_bb, isi_ib, w_dct, wv_nil, wv_cons, w_app, w_rem, mQ_r, Nat.reduceAdd, Nat.zero_add, Nat.reduceMul, Nat.reduceSub, Int.reduceAdd, Int.reduceSub, Int.reduceMul, Int.reduceLT, Int.reduceLE, Int.reduceEq, Int.reduceBEq, Int.reduceNeg, Int.reduceToNat, Int.cast_ofNat_Int, decide_true, decide_false, Bool.not_true, Bool.not_false, beq_self_eq_true, Bool.true_and, Bool.and_true, true_and, and_true, ix_at e2, set_at e2, e3, ix_cells e4, ix_lefts e4]
      rw [hp]
      refine ⟨hm0, ?_⟩
      simp only [ix_ref e5 ea, w_var, w_cst, w_gl, w_bin, w_neg, w_cmp, w_ix, w_call, w_bi, w_nil, w_cons, ws_nil, ws_cons, ws_pass, ws_doc, ws_ret, ws_retN, ws_expr, ws_set, ws_if, ws_for, wi_seq, ws_brk, ws_cont, w_not, w_isN, w_ntN, wq_and, wq_or, w_ife, w_chn, w_tup, w_lst, w_lstR, w_sl, wo_no, wo_yes, w_isi, w_lc, w_lcR, w_lc2, w_gen, w_frz, wi_rng1, wi_rng2, wi_zip, wi_zipS, wi_enm, ws_tp, ws_par, ws_setI, nxQ_nx, nxQ_rt, nxQ_bk, nxQ_ct, brQ_t, brQ_f, alQ_s, wp_ok, List.getElem?_cons_zero, List.getElem?_cons_succ, List.set_cons_zero, List.set_cons_succ, List.length_cons, List.length_nil, List.map_cons, List.map_nil, List.cons_append, List.nil_append, List.replicate_succ, List.replicate_zero, Bi.f, allD, Option.map_some, wb_add, wb_sub, wb_mul, wb_mod, wb_fdiv, tru_b, tru_i, cb_le, cb_lt, cb_ge, cb_gt, cb_eq, cb_ne, wc_of, brQ_b, if_true, if_false, Bool.false_eq_true, ft_l, ft_t, fl_l, fl_t, fi_i, ty_t, ty_l, ty_i, ty_b, w_truncF, ix_t0, ix_t1, ix_t2, ix_t3, isi_tt, isi_lt, isi_it, isi_ii, isi_bi, isi_bb, isi_ib, w_dct, wv_nil, wv_cons, w_app, w_rem, mQ_r, Nat.reduceAdd, Nat.zero_add, Nat.reduceMul, Nat.reduceSub, Int.reduceAdd, Int.reduceSub, Int.reduceMul, Int.reduceLT, Int.reduceLE, Int.reduceEq, Int.reduceBEq, Int.reduceNeg, Int.reduceToNat, Int.cast_ofNat_Int, decide_true, decide_false, Bool.not_true, Bool.not_false, beq_self_eq_true, Bool.true_and, Bool.and_true, true_and, and_true, decide_eq_true hl, ix_lefts e4]
      refine ⟨⟨h0, h1⟩, ?_⟩
      simp only [set_ref e5 ei, w_var, w_cst, w_gl, w_bin, w_neg, w_cmp, w_ix, w_call, w_bi, w_nil, w_cons, ws_nil, ws_cons, ws_pass, ws_doc, ws_ret, ws_retN, ws_expr, ws_set, ws_if, ws_for, wi_seq, ws_brk, ws_cont, w_not, w_isN, w_ntN, wq_and, wq_or, w_ife, w_chn, w_tup, w_lst, w_lstR, w_sl, wo_no, wo_yes, w_isi, w_lc, w_lcR, w_lc2, w_gen, w_frz, wi_rng1, wi_rng2, wi_zip, wi_zipS, wi_enm, ws_tp, ws_par, ws_setI, nxQ_nx, nxQ_rt, nxQ_bk, nxQ_ct, brQ_t, brQ_f, alQ_s, wp_ok, List.getElem?_cons_zero, List.getElem?_cons_succ, List.set_cons_zero, List.set_cons_succ, List.length_cons, List.length_nil, List.map_cons, List.map_nil, List.cons_append, List.nil_append, List.replicate_succ, List.replicate_zero, Bi.f, allD, Option.map_some, wb_add, wb_sub, wb_mul, wb_mod, wb_fdiv, tru_b, tru_i, cb_le, cb_lt, cb_ge, cb_gt, cb_eq, cb_ne, wc_of, brQ_b, if_true, if_false, Bool.false_eq_true, ft_l, ft_t, fl_l, fl_t, fi_i, ty_t, ty_l, ty_i, ty_b, w_truncF, ix_t0, ix_t1, ix_t2, ix_t3, isi_tt, isi_lt, isi_it, isi_ii, isi_bi, isi_bb, isi_ib, w_dct, wv_nil, wv_cons, w_app, w_rem, mQ_r, Nat.reduceAdd, Nat.zero_add, Nat.reduceMul, Nat.reduceSub, Int.reduceAdd, Int.reduceSub, Int.reduceMul, Int.reduceLT, Int.reduceLE, Int.reduceEq, Int.reduceBEq, Int.reduceNeg, Int.reduceToNat, Int.cast_ofNat_Int, decide_true, decide_false, Bool.not_true, Bool.not_false, beq_self_eq_true, Bool.true_and, Bool.and_true, true_and, and_true]
      refine ⟨h0, ?_⟩
      subst hb1
      simp only [Bs.sto, intsX, List.map_set]
      rfl
  · generalize hn : mixF (mixF (b.cs[p.toNat]) b.at_) (40 + (b.at_ : Int)) = nu
    refine ⟨((nu * 2147483647 + mixF nu (7 + (b.at_ : Int))) / 64 % m, b1), ⟨Int.emod_nonneg _ (by omega), Int.emod_lt_of_pos _ h0, ?_⟩, eq_of_wp ?_⟩
    · subst hb1
      exact ⟨hle, hc1, hc2, Nat.succ_le_succ hat⟩
    · rw [c_16]
      simp only [d_16, retQ_rt, retQ_nx, w_var, w_cst, w_gl, w_bin, w_neg, w_cmp, w_ix, w_call, w_bi, w_nil, w_cons, ws_nil, ws_cons, ws_pass, ws_doc, ws_ret, ws_retN, ws_expr, ws_set, ws_if, ws_for, wi_seq, ws_brk, ws_cont, w_not, w_isN, w_ntN, wq_and, wq_or, w_ife, w_chn, w_tup, w_lst, w_lstR, w_sl, wo_no, wo_yes, w_isi, w_lc, w_lcR, w_lc2, w_gen, w_frz, wi_rng1, wi_rng2, wi_zip, wi_zipS, wi_enm, ws_tp, ws_par, ws_setI, nxQ_nx, nxQ_rt, nxQ_bk, nxQ_ct, brQ_t, brQ_f, alQ_s, wp_ok, List.getElem?_cons_zero, List.getElem?_cons_succ, List.set_cons_zero, List.set_cons_succ, List.length_cons, List.length_nil, List.map_cons, List.map_nil, List.cons_append, List.nil_append, List.replicate_succ, List.replicate_zero, Bi.f, allD, Option.map_some, wb_add, wb_sub, wb_mul, wb_mod, wb_fdiv, tru_b, tru_i, cb_le, cb_lt, cb_ge, cb_gt, cb_eq, cb_ne, wc_of, brQ_b, if_true, if_false, Bool.false_eq_true, ft_l, ft_t, fl_l, fl_t, fi_i, ty_t, ty_l, ty_i, ty_b, w_truncF, ix_t0, ix_t1, ix_t2, ix_t3, isi_tt, isi_lt, isi_it, isi_ii, isi_bi, isi_bb, isi_ib, w_dct, wv_nil, wv_cons, w_app, w_rem, mQ_r, Nat.reduceAdd, Nat.zero_add, Nat.reduceMul, Nat.reduceSub, Int.reduceAdd, Int.reduceSub, Int.reduceMul, Int.reduceLT, Int.reduceLE, Int.reduceEq, Int.reduceBEq, Int.reduceNeg, Int.reduceToNat, Int.cast_ofNat_Int, decide_true, decide_false, Bool.not_true, Bool.not_false, beq_self_eq_true, Bool.true_and, Bool.and_true, true_and, and_true, ix_at e2, set_at e2, e3, ix_cells e4, ix_lefts e4]
      rw [hp]
      refine ⟨hm0, ?_⟩
      have m1 := mixed_so k (b1.sto ++ T) (b.cs[p.toNat]) b.at_ (by omega) (by omega)
      have m2 := mixed_so k (b1.sto ++ T) (mixF (b.cs[p.toNat]) b.at_) (40 + (b.at_ : Int)) (by omega) (by omega)
      have m3 := mixed_so k (b1.sto ++ T) nu (7 + (b.at_ : Int)) (by omega) (by omega)
      rw [hn] at m2
      simp only [ix_ref e5 ea, w_var, w_cst, w_gl, w_bin, w_neg, w_cmp, w_ix, w_call, w_bi, w_nil, w_cons, ws_nil, ws_cons, ws_pass, ws_doc, ws_ret, ws_retN, ws_expr, ws_set, ws_if, ws_for, wi_seq, ws_brk, ws_cont, w_not, w_isN, w_ntN, wq_and, wq_or, w_ife, w_chn, w_tup, w_lst, w_lstR, w_sl, wo_no, wo_yes, w_isi, w_lc, w_lcR, w_lc2, w_gen, w_frz, wi_rng1, wi_rng2, wi_zip, wi_zipS, wi_enm, ws_tp, ws_par, ws_setI, nxQ_nx, nxQ_rt, nxQ_bk, nxQ_ct, brQ_t, brQ_f, alQ_s, wp_ok, List.getElem?_cons_zero, List.getElem?_cons_succ, List.set_cons_zero, List.set_cons_succ, List.length_cons, List.length_nil, List.map_cons, List.map_nil, List.cons_append, List.nil_append, List.replicate_succ, List.replicate_zero, Bi.f, allD, Option.map_some, wb_add, wb_sub, wb_mul, wb_mod, wb_fdiv, tru_b, tru_i, cb_le, cb_lt, cb_ge, cb_gt, cb_eq, cb_ne, wc_of, brQ_b, if_true, if_false, Bool.false_eq_true, ft_l, ft_t, fl_l, fl_t, fi_i, ty_t, ty_l, ty_i, ty_b, w_truncF, ix_t0, ix_t1, ix_t2, ix_t3, isi_tt, isi_lt, isi_it, isi_ii, isi_bi, isi_bb, isi_ib, w_dct, wv_nil, wv_cons, w_app, w_rem, mQ_r, Nat.reduceAdd, Nat.zero_add, Nat.reduceMul, Nat.reduceSub, Int.reduceAdd, Int.reduceSub, Int.reduceMul, Int.reduceLT, Int.reduceLE, Int.reduceEq, Int.reduceBEq, Int.reduceNeg, Int.reduceToNat, Int.cast_ofNat_Int, decide_true, decide_false, Bool.not_true, Bool.not_false, beq_self_eq_true, Bool.true_and, Bool.and_true, true_and, and_true, decide_eq_false hl, ix_lefts e4, ix_cells e4, ix_l ec, m1, m2, m3]
      refine ⟨.inr (by decide), ?_⟩
      ((repeat' apply And.intro) <;> first | trivial | rfl | assumption | skip)
/-- one of some things -/
theorem of_list (k : Nat) (b : Bs) (n : Nat) (T : Sto) (xs : List D) (hb : b.Ok n) (hn : n ≤ 1000000) (h0 : xs ≠ []) (h1 : xs.length < 1073741824) :
    ∃ v : D × Bs, (v.1 ∈ xs ∧ v.2.Ok (n + 1)) ∧ callN ds (k + 3) 14 [.r 2, .d (.list xs)] (b.sto ++ T) = .ok (.d v.1) (v.2.sto ++ T) := by
  have hp : 0 < xs.length := List.length_pos_iff.mpr h0
  obtain ⟨v, ⟨hv0, hv1, hb'⟩, e⟩ := draw_so k b n T xs.length hb hn (by omega) (by omega)
  have hlt : v.1.toNat < xs.length := by omega
  refine ⟨(xs[v.1.toNat], v.2), ⟨List.getElem_mem hlt, hb'⟩, eq_of_wp ?_⟩
  rw [c_14]
  simp only [d_14, retQ_rt, retQ_nx, w_var, w_cst, w_gl, w_bin, w_neg, w_cmp, w_ix, w_call, w_bi, w_nil, w_cons, ws_nil, ws_cons, ws_pass, ws_doc, ws_ret, ws_retN, ws_expr, ws_set, ws_if, ws_for, wi_seq, ws_brk, ws_cont, w_not, w_isN, w_ntN, wq_and, wq_or, w_ife, w_chn, w_tup, w_lst, w_lstR, w_sl, wo_no, wo_yes, w_isi, w_lc, w_lcR, w_lc2, w_gen, w_frz, wi_rng1, wi_rng2, wi_zip, wi_zipS, wi_enm, ws_tp, ws_par, ws_setI, nxQ_nx, nxQ_rt, nxQ_bk, nxQ_ct, brQ_t, brQ_f, alQ_s, wp_ok, List.getElem?_cons_zero, List.getElem?_cons_succ, List.set_cons_zero, List.set_cons_succ, List.length_cons, List.length_nil, List.map_cons, List.map_nil, List.cons_append, List.nil_append, List.replicate_succ, List.replicate_zero, Bi.f, allD, Option.map_some, wb_add, wb_sub, wb_mul, wb_mod, wb_fdiv, tru_b, tru_i, cb_le, cb_lt, cb_ge, cb_gt, cb_eq, cb_ne, wc_of, brQ_b, if_true, if_false, Bool.false_eq_true, ft_l, ft_t, fl_l, fl_t, fi_i, ty_t, ty_l, ty_i, ty_b, w_truncF, ix_t0, ix_t1, ix_t2, ix_t3, isi_tt, isi_lt, isi_it, isi_ii, isi_bi, isi_bb, isi_ib, w_dct, wv_nil, wv_cons, w_app, w_rem, mQ_r, Nat.reduceAdd, Nat.zero_add, Nat.reduceMul, Nat.reduceSub, Int.reduceAdd, Int.reduceSub, Int.reduceMul, Int.reduceLT, Int.reduceLE, Int.reduceEq, Int.reduceBEq, Int.reduceNeg, Int.reduceToNat, Int.cast_ofNat_Int, decide_true, decide_false, Bool.not_true, Bool.not_false, beq_self_eq_true, Bool.true_and, Bool.and_true, true_and, and_true, e]
  rw [ix_l (atI_nat hv0 (List.getElem?_eq_getElem hlt))]
  ((repeat' apply And.intro) <;> first | trivial | rfl | assumption | skip)
theorem values_so (k : Nat) (b : Bs) (n : Nat) (T : Sto) (m : Nat) (hb : b.Ok n) (hn : n + m ≤ 1000000) :
    ∃ v : List Int × Bs, (v.1.length = m ∧ Bits v.1 ∧ v.2.Ok (n + m)) ∧ callN ds (k + 3) 9 [.r 2, .d (.int m)] (b.sto ++ T) = .ok (.d (rowD v.1)) (v.2.sto ++ T) := by
  have h : wp (callN ds (k + 3) 9 [.r 2, .d (.int m)] (b.sto ++ T)) fun x S' => ∃ v : List Int × Bs, (v.1.length = m ∧ Bits v.1 ∧ v.2.Ok (n + m)) ∧ x = .d (rowD v.1) ∧ S' = v.2.sto ++ T := by
    rw [c_9]
    simp only [d_9, retQ_rt, retQ_nx, w_var, w_cst, w_gl, w_bin, w_neg, w_cmp, w_ix, w_call, w_bi, w_nil, w_cons, ws_nil, ws_cons, ws_pass, ws_doc, ws_ret, ws_retN, ws_expr, ws_set, ws_if, ws_for, wi_seq, ws_brk, ws_cont, w_not, w_isN, w_ntN, wq_and, wq_or, w_ife, w_chn, w_tup, w_lst, w_lstR, w_sl, wo_no, wo_yes, w_isi, w_lc, w_lcR, w_lc2, w_gen, w_frz, wi_rng1, wi_rng2, wi_zip, wi_zipS, wi_enm, ws_tp, ws_par, ws_setI, nxQ_nx, nxQ_rt, nxQ_bk, nxQ_ct, brQ_t, brQ_f, alQ_s, wp_ok, List.getElem?_cons_zero, List.getElem?_cons_succ, List.set_cons_zero, List.set_cons_succ, List.length_cons, List.length_nil, List.map_cons, List.map_nil, List.cons_append, List.nil_append, List.replicate_succ, List.replicate_zero, Bi.f, allD, Option.map_some, wb_add, wb_sub, wb_mul, wb_mod, wb_fdiv, tru_b, tru_i, cb_le, cb_lt, cb_ge, cb_gt, cb_eq, cb_ne, wc_of, brQ_b, if_true, if_false, Bool.false_eq_true, ft_l, ft_t, fl_l, fl_t, fi_i, ty_t, ty_l, ty_i, ty_b, w_truncF, ix_t0, ix_t1, ix_t2, ix_t3, isi_tt, isi_lt, isi_it, isi_ii, isi_bi, isi_bb, isi_ib, w_dct, wv_nil, wv_cons, w_app, w_rem, mQ_r, Nat.reduceAdd, Nat.zero_add, Nat.reduceMul, Nat.reduceSub, Int.reduceAdd, Int.reduceSub, Int.reduceMul, Int.reduceLT, Int.reduceLE, Int.reduceEq, Int.reduceBEq, Int.reduceNeg, Int.reduceToNat, Int.cast_ofNat_Int, decide_true, decide_false, Bool.not_true, Bool.not_false, beq_self_eq_true, Bool.true_and, Bool.and_true, true_and, and_true]
    rw [rg1 (by omega)]
    refine lc_seq (fun i : Nat => .d (.int i)) PyData.int (fun _ c => c = 0 ∨ c = 1) (fun j S => ∃ b : Bs, b.Ok (n + j) ∧ S = b.sto ++ T) (List.range m) ⟨b, hb, rfl⟩ (fun j S x hx hj => ?_) fun cs S hl hp hj => ?_
    · obtain ⟨b, hb, rfl⟩ := hj
      have hj : j < m := by have := (List.getElem?_eq_some_iff.mp hx).1; simpa using this
      refine ⟨_, rfl, ?_⟩
      simp only [wipeR, w_var, w_cst, w_gl, w_bin, w_neg, w_cmp, w_ix, w_call, w_bi, w_nil, w_cons, ws_nil, ws_cons, ws_pass, ws_doc, ws_ret, ws_retN, ws_expr, ws_set, ws_if, ws_for, wi_seq, ws_brk, ws_cont, w_not, w_isN, w_ntN, wq_and, wq_or, w_ife, w_chn, w_tup, w_lst, w_lstR, w_sl, wo_no, wo_yes, w_isi, w_lc, w_lcR, w_lc2, w_gen, w_frz, wi_rng1, wi_rng2, wi_zip, wi_zipS, wi_enm, ws_tp, ws_par, ws_setI, nxQ_nx, nxQ_rt, nxQ_bk, nxQ_ct, brQ_t, brQ_f, alQ_s, wp_ok, List.getElem?_cons_zero, List.getElem?_cons_succ, List.set_cons_zero, List.set_cons_succ, List.length_cons, List.length_nil, List.map_cons, List.map_nil, List.cons_append, List.nil_append, List.replicate_succ, List.replicate_zero, Bi.f, allD, Option.map_some, wb_add, wb_sub, wb_mul, wb_mod, wb_fdiv, tru_b, tru_i, cb_le, cb_lt, cb_ge, cb_gt, cb_eq, cb_ne, wc_of, brQ_b, if_true, if_false, Bool.false_eq_true, ft_l, ft_t, fl_l, fl_t, fi_i, ty_t, ty_l, ty_i, ty_b, w_truncF, ix_t0, ix_t1, ix_t2, ix_t3, isi_tt, isi_lt, isi_it, isi_ii, isi_bi, isi_bb, isi_ib, w_dct, wv_nil, wv_cons, w_app, w_rem, mQ_r, Nat.reduceAdd, Nat.zero_add, Nat.reduceMul, Nat.reduceSub, Int.reduceAdd, Int.reduceSub, Int.reduceMul, Int.reduceLT, Int.reduceLE, Int.reduceEq, Int.reduceBEq, Int.reduceNeg, Int.reduceToNat, Int.cast_ofNat_Int, decide_true, decide_false, Bool.not_true, Bool.not_false, beq_self_eq_true, Bool.true_and, Bool.and_true, true_and, and_true]
      refine wp_of_ex (draw_so k b (n + j) T 2 hb (by omega) (by decide) (by decide)) fun v hv => ?_
      exact ⟨v.1, rfl, by omega, v.2, hv.2.2, rfl⟩
    · obtain ⟨b, hb, rfl⟩ := hj
      rw [List.length_range] at hl hb
      exact ⟨(cs, b), ⟨hl, fun c hc => let ⟨i, hi⟩ := List.getElem?_of_mem hc; hp i c hi, hb⟩, rfl, rfl⟩
  obtain ⟨x, S', e, v, hv, rfl, rfl⟩ := wp_eq h
  exact ⟨v, hv, e⟩
/-! ### gates and rows drawn -/
def rowsL : Nat → List (List Int)
  | 0 => [[]]
  | n + 1 => (rowsL n).flatMap fun r => [r ++ [0], r ++ [1]]
theorem rowsL_len : ∀ n, (rowsL n).length = 2 ^ n
  | 0 => rfl
  | n + 1 => by
    have key : ∀ l : List (List Int), (l.flatMap fun r => [r ++ [0], r ++ [1]]).length = l.length * 2 := fun l => by
      induction l with
      | nil => rfl
      | cons x l ih => rw [List.flatMap_cons, List.length_append, ih]; simp; omega
    show ((rowsL n).flatMap _).length = _
    rw [key, rowsL_len n, Nat.pow_succ]
theorem rowsL_mem : ∀ {n : Nat} {r : List Int}, r ∈ rowsL n ↔ r.length = n ∧ Bits r
  | 0, r => by
    show r ∈ [[]] ↔ _
    constructor
    · intro h
      rw [List.mem_singleton.mp h]
      exact ⟨rfl, fun b hb => absurd hb List.not_mem_nil⟩
    · rintro ⟨h, _⟩
      rw [List.length_eq_zero_iff.mp h]
      exact List.mem_singleton.mpr rfl
  | n + 1, r => by
    show r ∈ (rowsL n).flatMap _ ↔ _
    rw [List.mem_flatMap]
    constructor
    · rintro ⟨q, hq, h⟩
      obtain ⟨h1, h2⟩ := rowsL_mem.mp hq
      have fin : ∀ b : Int, (b = 0 ∨ b = 1) → (q ++ [b]).length = n + 1 ∧ Bits (q ++ [b]) := fun b hb => ⟨by simp [h1], fun x hx => by
        rcases List.mem_append.mp hx with h | h
        · exact h2 x h
        · rw [List.mem_singleton.mp h]; exact hb⟩
      rcases List.mem_cons.mp h with e | h
      · rw [e]; exact fin 0 (.inl rfl)
      · rw [List.mem_singleton.mp h]; exact fin 1 (.inr rfl)
    · rintro ⟨h1, h2⟩
      have hne : r ≠ [] := fun z => by rw [z] at h1; cases h1
      refine ⟨r.dropLast, rowsL_mem.mpr ⟨by simp [h1], fun b hb => h2 b (List.dropLast_subset r hb)⟩, ?_⟩
      have e := List.dropLast_concat_getLast hne
      rcases h2 _ (List.getLast_mem hne) with q | q
      · rw [q] at e; exact List.mem_cons.mpr (.inl e.symm)
      · rw [q] at e; exact List.mem_cons.mpr (.inr (List.mem_singleton.mpr e.symm))
theorem rowsL_asc : ∀ n : Nat, Asc (rowsL n)
  | 0 => List.pairwise_singleton _ _
  | n + 1 => by
    have lt_app : ∀ {a b : List Int} (x y : Int), a.length = b.length → ltL a b = true → ltL (a ++ [x]) (b ++ [y]) = true := by
      intro a
      induction a with
      | nil => intro b x y hl h; cases b with
        | nil => cases h
        | cons _ _ => cases hl
      | cons p as ih => intro b x y hl h; cases b with
        | nil => cases hl
        | cons q bs =>
          rw [List.cons_append, List.cons_append, ltL_cons]
          rw [ltL_cons] at h
          by_cases e : p = q
          · rw [if_pos e] at h ⊢
            exact ih x y (by simpa using hl) h
          · rw [if_neg e] at h ⊢
            exact h
    have lt_same : ∀ (a : List Int), ltL (a ++ [0]) (a ++ [1]) = true := by
      intro a
      induction a with
      | nil => decide
      | cons p as ih => rw [List.cons_append, List.cons_append, ltL_cons, if_pos rfl]; exact ih
    have h := rowsL_asc n
    have hl : ∀ r ∈ rowsL n, r.length = n := fun r hr => (rowsL_mem.mp hr).1
    show Asc ((rowsL n).flatMap fun r => [r ++ [0], r ++ [1]])
    generalize rowsL n = l at h hl
    unfold Asc at h ⊢
    induction l with
    | nil => exact List.Pairwise.nil
    | cons r l ih =>
      obtain ⟨h1, h2⟩ := List.pairwise_cons.mp h
      rw [List.flatMap_cons]
      refine List.pairwise_append.mpr ⟨?_, ih h2 fun q hq => hl q (List.mem_cons_of_mem _ hq), fun a ha b hb => ?_⟩
      · exact List.pairwise_cons.mpr ⟨fun b hb => by rw [List.mem_singleton.mp hb]; exact lt_same r, List.pairwise_singleton _ _⟩
      · obtain ⟨q, hq, hb⟩ := List.mem_flatMap.mp hb
        have hlt := h1 q hq
        have hlen : r.length = q.length := by rw [hl r (List.mem_cons_self ..), hl q (List.mem_cons_of_mem _ hq)]
        rcases List.mem_cons.mp ha with e1 | e1 <;> rcases List.mem_cons.mp hb with e2 | e2
        · rw [e1, e2]; exact lt_app 0 0 hlen hlt
        · rw [e1, List.mem_singleton.mp e2]; exact lt_app 0 1 hlen hlt
        · rw [List.mem_singleton.mp e1, e2]; exact lt_app 1 0 hlen hlt
        · rw [List.mem_singleton.mp e1, List.mem_singleton.mp e2]; exact lt_app 1 1 hlen hlt
theorem row_add (x : List Int) (b : Int) {S : Sto} {Q : Xv → Sto → Prop} (h : x.length ≤ 1000) : wp (pBin .add (.d (rowD x)) (.d (.tuple [.int b])) S) Q = Q (.d (rowD (x ++ [b]))) S := by
  unfold rowD
  rw [wb_addT (by rw [List.length_map]; simp; omega), List.map_append]
  rfl
theorem law_rows_so (k : Nat) (S : Sto) (n : Nat) (hn : n ≤ 10) : callN ds (k + 1) 3 [.d (.int n)] S = .ok (.d (.list ((rowsL n).map rowD))) S := by
  refine eq_of_wp ?_
  rw [c_3]
  simp only [d_3, retQ_rt, retQ_nx, w_var, w_cst, w_gl, w_bin, w_neg, w_cmp, w_ix, w_call, w_bi, w_nil, w_cons, ws_nil, ws_cons, ws_pass, ws_doc, ws_ret, ws_retN, ws_expr, ws_set, ws_if, ws_for, wi_seq, ws_brk, ws_cont, w_not, w_isN, w_ntN, wq_and, wq_or, w_ife, w_chn, w_tup, w_lst, w_lstR, w_sl, wo_no, wo_yes, w_isi, w_lc, w_lcR, w_lc2, w_gen, w_frz, wi_rng1, wi_rng2, wi_zip, wi_zipS, wi_enm, ws_tp, ws_par, ws_setI, nxQ_nx, nxQ_rt, nxQ_bk, nxQ_ct, brQ_t, brQ_f, alQ_s, wp_ok, List.getElem?_cons_zero, List.getElem?_cons_succ, List.set_cons_zero, List.set_cons_succ, List.length_cons, List.length_nil, List.map_cons, List.map_nil, List.cons_append, List.nil_append, List.replicate_succ, List.replicate_zero, Bi.f, allD, Option.map_some, wb_add, wb_sub, wb_mul, wb_mod, wb_fdiv, tru_b, tru_i, cb_le, cb_lt, cb_ge, cb_gt, cb_eq, cb_ne, wc_of, brQ_b, if_true, if_false, Bool.false_eq_true, ft_l, ft_t, fl_l, fl_t, fi_i, ty_t, ty_l, ty_i, ty_b, w_truncF, ix_t0, ix_t1, ix_t2, ix_t3, isi_tt, isi_lt, isi_it, isi_ii, isi_bi, isi_bb, isi_ib, w_dct, wv_nil, wv_cons, w_app, w_rem, mQ_r, Nat.reduceAdd, Nat.zero_add, Nat.reduceMul, Nat.reduceSub, Int.reduceAdd, Int.reduceSub, Int.reduceMul, Int.reduceLT, Int.reduceLE, Int.reduceEq, Int.reduceBEq, Int.reduceNeg, Int.reduceToNat, Int.cast_ofNat_Int, decide_true, decide_false, Bool.not_true, Bool.not_false, beq_self_eq_true, Bool.true_and, Bool.and_true, true_and, and_true]
  rw [rg1 (by omega)]
  refine for_range (fun (i : Nat) ρ => ∃ a b c, ρ = [some (.d (.int n)), some (.d (.list ((rowsL i).map rowD))), a, b, c]) n ⟨none, none, none, rfl⟩ (fun i ρ hi h => ?_) fun ρ' h => ?_
  · obtain ⟨a, b, c, rfl⟩ := h
    refine ⟨_, rfl, ?_⟩
    simp only [w_var, w_cst, w_gl, w_bin, w_neg, w_cmp, w_ix, w_call, w_bi, w_nil, w_cons, ws_nil, ws_cons, ws_pass, ws_doc, ws_ret, ws_retN, ws_expr, ws_set, ws_if, ws_for, wi_seq, ws_brk, ws_cont, w_not, w_isN, w_ntN, wq_and, wq_or, w_ife, w_chn, w_tup, w_lst, w_lstR, w_sl, wo_no, wo_yes, w_isi, w_lc, w_lcR, w_lc2, w_gen, w_frz, wi_rng1, wi_rng2, wi_zip, wi_zipS, wi_enm, ws_tp, ws_par, ws_setI, nxQ_nx, nxQ_rt, nxQ_bk, nxQ_ct, brQ_t, brQ_f, alQ_s, wp_ok, List.getElem?_cons_zero, List.getElem?_cons_succ, List.set_cons_zero, List.set_cons_succ, List.length_cons, List.length_nil, List.map_cons, List.map_nil, List.cons_append, List.nil_append, List.replicate_succ, List.replicate_zero, Bi.f, allD, Option.map_some, wb_add, wb_sub, wb_mul, wb_mod, wb_fdiv, tru_b, tru_i, cb_le, cb_lt, cb_ge, cb_gt, cb_eq, cb_ne, wc_of, brQ_b, if_true, if_false, Bool.false_eq_true, ft_l, ft_t, fl_l, fl_t, fi_i, ty_t, ty_l, ty_i, ty_b, w_truncF, ix_t0, ix_t1, ix_t2, ix_t3, isi_tt, isi_lt, isi_it, isi_ii, isi_bi, isi_bb, isi_ib, w_dct, wv_nil, wv_cons, w_app, w_rem, mQ_r, Nat.reduceAdd, Nat.zero_add, Nat.reduceMul, Nat.reduceSub, Int.reduceAdd, Int.reduceSub, Int.reduceMul, Int.reduceLT, Int.reduceLE, Int.reduceEq, Int.reduceBEq, Int.reduceNeg, Int.reduceToNat, Int.cast_ofNat_Int, decide_true, decide_false, Bool.not_true, Bool.not_false, beq_self_eq_true, Bool.true_and, Bool.and_true, true_and, and_true, seqIt, List.map_map]
    have hsz : (rowsL i).length ≤ 1024 := by
      rw [rowsL_len]
      exact Nat.le_trans (Nat.pow_le_pow_right (by decide) (show i ≤ 10 by omega)) (by decide)
    generalize hL : rowsL i = L at hsz
    refine for_pre (Xv.d ∘ rowD) (fun pre ρ => ∃ c, ρ = [some (.d (.int n)), some (.d (.list (L.map rowD))), some (.d (.int i)), some (.d (.list ((pre.flatMap fun r => [r ++ [0], r ++ [1]]).map rowD))), c]) L ⟨c, rfl⟩ (fun pre x post ρ e h => ?_) fun ρ' h => ?_
    · obtain ⟨c, rfl⟩ := h
      have hl : pre.length ≤ 1024 := by have := congrArg List.length e; rw [List.length_append] at this; omega
      have hl2 : (pre.flatMap fun r => [r ++ [(0 : Int)], r ++ [1]]).length = pre.length * 2 := by
        clear e hl
        induction pre with
        | nil => rfl
        | cons x l ih => rw [List.flatMap_cons, List.length_append, ih]; simp; omega
      refine ⟨_, rfl, ?_⟩
      have hx : x.length ≤ 10 := by
        have : x ∈ rowsL i := by rw [hL, e]; simp
        rw [(rowsL_mem.mp this).1]; omega
      simp only [Function.comp_def, w_var, w_cst, w_gl, w_bin, w_neg, w_cmp, w_ix, w_call, w_bi, w_nil, w_cons, ws_nil, ws_cons, ws_pass, ws_doc, ws_ret, ws_retN, ws_expr, ws_set, ws_if, ws_for, wi_seq, ws_brk, ws_cont, w_not, w_isN, w_ntN, wq_and, wq_or, w_ife, w_chn, w_tup, w_lst, w_lstR, w_sl, wo_no, wo_yes, w_isi, w_lc, w_lcR, w_lc2, w_gen, w_frz, wi_rng1, wi_rng2, wi_zip, wi_zipS, wi_enm, ws_tp, ws_par, ws_setI, nxQ_nx, nxQ_rt, nxQ_bk, nxQ_ct, brQ_t, brQ_f, alQ_s, wp_ok, List.getElem?_cons_zero, List.getElem?_cons_succ, List.set_cons_zero, List.set_cons_succ, List.length_cons, List.length_nil, List.map_cons, List.map_nil, List.cons_append, List.nil_append, List.replicate_succ, List.replicate_zero, Bi.f, allD, Option.map_some, wb_add, wb_sub, wb_mul, wb_mod, wb_fdiv, tru_b, tru_i, cb_le, cb_lt, cb_ge, cb_gt, cb_eq, cb_ne, wc_of, brQ_b, if_true, if_false, Bool.false_eq_true, ft_l, ft_t, fl_l, fl_t, fi_i, ty_t, ty_l, ty_i, ty_b, w_truncF, ix_t0, ix_t1, ix_t2, ix_t3, isi_tt, isi_lt, isi_it, isi_ii, isi_bi, isi_bb, isi_ib, w_dct, wv_nil, wv_cons, w_app, w_rem, mQ_r, Nat.reduceAdd, Nat.zero_add, Nat.reduceMul, Nat.reduceSub, Int.reduceAdd, Int.reduceSub, Int.reduceMul, Int.reduceLT, Int.reduceLE, Int.reduceEq, Int.reduceBEq, Int.reduceNeg, Int.reduceToNat, Int.cast_ofNat_Int, decide_true, decide_false, Bool.not_true, Bool.not_false, beq_self_eq_true, Bool.true_and, Bool.and_true, true_and, and_true]
      rw [row_add x 0 (by omega)]
      simp only [w_var, w_cst, w_gl, w_bin, w_neg, w_cmp, w_ix, w_call, w_bi, w_nil, w_cons, ws_nil, ws_cons, ws_pass, ws_doc, ws_ret, ws_retN, ws_expr, ws_set, ws_if, ws_for, wi_seq, ws_brk, ws_cont, w_not, w_isN, w_ntN, wq_and, wq_or, w_ife, w_chn, w_tup, w_lst, w_lstR, w_sl, wo_no, wo_yes, w_isi, w_lc, w_lcR, w_lc2, w_gen, w_frz, wi_rng1, wi_rng2, wi_zip, wi_zipS, wi_enm, ws_tp, ws_par, ws_setI, nxQ_nx, nxQ_rt, nxQ_bk, nxQ_ct, brQ_t, brQ_f, alQ_s, wp_ok, List.getElem?_cons_zero, List.getElem?_cons_succ, List.set_cons_zero, List.set_cons_succ, List.length_cons, List.length_nil, List.map_cons, List.map_nil, List.cons_append, List.nil_append, List.replicate_succ, List.replicate_zero, Bi.f, allD, Option.map_some, wb_add, wb_sub, wb_mul, wb_mod, wb_fdiv, tru_b, tru_i, cb_le, cb_lt, cb_ge, cb_gt, cb_eq, cb_ne, wc_of, brQ_b, if_true, if_false, Bool.false_eq_true, ft_l, ft_t, fl_l, fl_t, fi_i, ty_t, ty_l, ty_i, ty_b, w_truncF, ix_t0, ix_t1, ix_t2, ix_t3, isi_tt, isi_lt, isi_it, isi_ii, isi_bi, isi_bb, isi_ib, w_dct, wv_nil, wv_cons, w_app, w_rem, mQ_r, Nat.reduceAdd, Nat.zero_add, Nat.reduceMul, Nat.reduceSub, Int.reduceAdd, Int.reduceSub, Int.reduceMul, Int.reduceLT, Int.reduceLE, Int.reduceEq, Int.reduceBEq, Int.reduceNeg, Int.reduceToNat, Int.cast_ofNat_Int, decide_true, decide_false, Bool.not_true, Bool.not_false, beq_self_eq_true, Bool.true_and, Bool.and_true, true_and, and_true]
      rw [row_add x 1 (by omega)]
      simp only [w_var, w_cst, w_gl, w_bin, w_neg, w_cmp, w_ix, w_call, w_bi, w_nil, w_cons, ws_nil, ws_cons, ws_pass, ws_doc, ws_ret, ws_retN, ws_expr, ws_set, ws_if, ws_for, wi_seq, ws_brk, ws_cont, w_not, w_isN, w_ntN, wq_and, wq_or, w_ife, w_chn, w_tup, w_lst, w_lstR, w_sl, wo_no, wo_yes, w_isi, w_lc, w_lcR, w_lc2, w_gen, w_frz, wi_rng1, wi_rng2, wi_zip, wi_zipS, wi_enm, ws_tp, ws_par, ws_setI, nxQ_nx, nxQ_rt, nxQ_bk, nxQ_ct, brQ_t, brQ_f, alQ_s, wp_ok, List.getElem?_cons_zero, List.getElem?_cons_succ, List.set_cons_zero, List.set_cons_succ, List.length_cons, List.length_nil, List.map_cons, List.map_nil, List.cons_append, List.nil_append, List.replicate_succ, List.replicate_zero, Bi.f, allD, Option.map_some, wb_add, wb_sub, wb_mul, wb_mod, wb_fdiv, tru_b, tru_i, cb_le, cb_lt, cb_ge, cb_gt, cb_eq, cb_ne, wc_of, brQ_b, if_true, if_false, Bool.false_eq_true, ft_l, ft_t, fl_l, fl_t, fi_i, ty_t, ty_l, ty_i, ty_b, w_truncF, ix_t0, ix_t1, ix_t2, ix_t3, isi_tt, isi_lt, isi_it, isi_ii, isi_bi, isi_bb, isi_ib, w_dct, wv_nil, wv_cons, w_app, w_rem, mQ_r, Nat.reduceAdd, Nat.zero_add, Nat.reduceMul, Nat.reduceSub, Int.reduceAdd, Int.reduceSub, Int.reduceMul, Int.reduceLT, Int.reduceLE, Int.reduceEq, Int.reduceBEq, Int.reduceNeg, Int.reduceToNat, Int.cast_ofNat_Int, decide_true, decide_false, Bool.not_true, Bool.not_false, beq_self_eq_true, Bool.true_and, Bool.and_true, true_and, and_true]
      rw [wb_addL (by rw [List.length_map, hl2]; simp; omega)]
      simp only [w_var, w_cst, w_gl, w_bin, w_neg, w_cmp, w_ix, w_call, w_bi, w_nil, w_cons, ws_nil, ws_cons, ws_pass, ws_doc, ws_ret, ws_retN, ws_expr, ws_set, ws_if, ws_for, wi_seq, ws_brk, ws_cont, w_not, w_isN, w_ntN, wq_and, wq_or, w_ife, w_chn, w_tup, w_lst, w_lstR, w_sl, wo_no, wo_yes, w_isi, w_lc, w_lcR, w_lc2, w_gen, w_frz, wi_rng1, wi_rng2, wi_zip, wi_zipS, wi_enm, ws_tp, ws_par, ws_setI, nxQ_nx, nxQ_rt, nxQ_bk, nxQ_ct, brQ_t, brQ_f, alQ_s, wp_ok, List.getElem?_cons_zero, List.getElem?_cons_succ, List.set_cons_zero, List.set_cons_succ, List.length_cons, List.length_nil, List.map_cons, List.map_nil, List.cons_append, List.nil_append, List.replicate_succ, List.replicate_zero, Bi.f, allD, Option.map_some, wb_add, wb_sub, wb_mul, wb_mod, wb_fdiv, tru_b, tru_i, cb_le, cb_lt, cb_ge, cb_gt, cb_eq, cb_ne, wc_of, brQ_b, if_true, if_false, Bool.false_eq_true, ft_l, ft_t, fl_l, fl_t, fi_i, ty_t, ty_l, ty_i, ty_b, w_truncF, ix_t0, ix_t1, ix_t2, ix_t3, isi_tt, isi_lt, isi_it, isi_ii, isi_bi, isi_bb, isi_ib, w_dct, wv_nil, wv_cons, w_app, w_rem, mQ_r, Nat.reduceAdd, Nat.zero_add, Nat.reduceMul, Nat.reduceSub, Int.reduceAdd, Int.reduceSub, Int.reduceMul, Int.reduceLT, Int.reduceLE, Int.reduceEq, Int.reduceBEq, Int.reduceNeg, Int.reduceToNat, Int.cast_ofNat_Int, decide_true, decide_false, Bool.not_true, Bool.not_false, beq_self_eq_true, Bool.true_and, Bool.and_true, true_and, and_true]
      exact ⟨_, .inl rfl, _, by rw [List.flatMap_append, List.map_append]; rfl⟩
    · obtain ⟨c, rfl⟩ := h
      simp only [w_var, w_cst, w_gl, w_bin, w_neg, w_cmp, w_ix, w_call, w_bi, w_nil, w_cons, ws_nil, ws_cons, ws_pass, ws_doc, ws_ret, ws_retN, ws_expr, ws_set, ws_if, ws_for, wi_seq, ws_brk, ws_cont, w_not, w_isN, w_ntN, wq_and, wq_or, w_ife, w_chn, w_tup, w_lst, w_lstR, w_sl, wo_no, wo_yes, w_isi, w_lc, w_lcR, w_lc2, w_gen, w_frz, wi_rng1, wi_rng2, wi_zip, wi_zipS, wi_enm, ws_tp, ws_par, ws_setI, nxQ_nx, nxQ_rt, nxQ_bk, nxQ_ct, brQ_t, brQ_f, alQ_s, wp_ok, List.getElem?_cons_zero, List.getElem?_cons_succ, List.set_cons_zero, List.set_cons_succ, List.length_cons, List.length_nil, List.map_cons, List.map_nil, List.cons_append, List.nil_append, List.replicate_succ, List.replicate_zero, Bi.f, allD, Option.map_some, wb_add, wb_sub, wb_mul, wb_mod, wb_fdiv, tru_b, tru_i, cb_le, cb_lt, cb_ge, cb_gt, cb_eq, cb_ne, wc_of, brQ_b, if_true, if_false, Bool.false_eq_true, ft_l, ft_t, fl_l, fl_t, fi_i, ty_t, ty_l, ty_i, ty_b, w_truncF, ix_t0, ix_t1, ix_t2, ix_t3, isi_tt, isi_lt, isi_it, isi_ii, isi_bi, isi_bb, isi_ib, w_dct, wv_nil, wv_cons, w_app, w_rem, mQ_r, Nat.reduceAdd, Nat.zero_add, Nat.reduceMul, Nat.reduceSub, Int.reduceAdd, Int.reduceSub, Int.reduceMul, Int.reduceLT, Int.reduceLE, Int.reduceEq, Int.reduceBEq, Int.reduceNeg, Int.reduceToNat, Int.cast_ofNat_Int, decide_true, decide_false, Bool.not_true, Bool.not_false, beq_self_eq_true, Bool.true_and, Bool.and_true, true_and, and_true]
      refine ⟨_, .inl rfl, some (.d (.int i)), some (.d (.list ((L.flatMap fun r => [r ++ [0], r ++ [1]]).map rowD))), c, ?_⟩
      rw [show rowsL (i + 1) = (rowsL i).flatMap fun r => [r ++ [0], r ++ [1]] from rfl, hL]
  · obtain ⟨a, b, c, rfl⟩ := h
    simp only [w_var, w_cst, w_gl, w_bin, w_neg, w_cmp, w_ix, w_call, w_bi, w_nil, w_cons, ws_nil, ws_cons, ws_pass, ws_doc, ws_ret, ws_retN, ws_expr, ws_set, ws_if, ws_for, wi_seq, ws_brk, ws_cont, w_not, w_isN, w_ntN, wq_and, wq_or, w_ife, w_chn, w_tup, w_lst, w_lstR, w_sl, wo_no, wo_yes, w_isi, w_lc, w_lcR, w_lc2, w_gen, w_frz, wi_rng1, wi_rng2, wi_zip, wi_zipS, wi_enm, ws_tp, ws_par, ws_setI, nxQ_nx, nxQ_rt, nxQ_bk, nxQ_ct, brQ_t, brQ_f, alQ_s, wp_ok, List.getElem?_cons_zero, List.getElem?_cons_succ, List.set_cons_zero, List.set_cons_succ, List.length_cons, List.length_nil, List.map_cons, List.map_nil, List.cons_append, List.nil_append, List.replicate_succ, List.replicate_zero, Bi.f, allD, Option.map_some, wb_add, wb_sub, wb_mul, wb_mod, wb_fdiv, tru_b, tru_i, cb_le, cb_lt, cb_ge, cb_gt, cb_eq, cb_ne, wc_of, brQ_b, if_true, if_false, Bool.false_eq_true, ft_l, ft_t, fl_l, fl_t, fi_i, ty_t, ty_l, ty_i, ty_b, w_truncF, ix_t0, ix_t1, ix_t2, ix_t3, isi_tt, isi_lt, isi_it, isi_ii, isi_bi, isi_bb, isi_ib, w_dct, wv_nil, wv_cons, w_app, w_rem, mQ_r, Nat.reduceAdd, Nat.zero_add, Nat.reduceMul, Nat.reduceSub, Int.reduceAdd, Int.reduceSub, Int.reduceMul, Int.reduceLT, Int.reduceLE, Int.reduceEq, Int.reduceBEq, Int.reduceNeg, Int.reduceToNat, Int.cast_ofNat_Int, decide_true, decide_false, Bool.not_true, Bool.not_false, beq_self_eq_true, Bool.true_and, Bool.and_true, true_and, and_true]
theorem gate_so (k : Nat) (b : Bs) (n : Nat) (T : Sto) (lo hi : Nat) (hb : b.Ok n) (hn : n + 20 ≤ 1000000) (h1 : 1 ≤ lo) (h2 : lo ≤ hi) (h3 : hi ≤ 4) :
    ∃ v : (Nat × List Int) × Bs, (lo ≤ v.1.1 ∧ v.1.1 ≤ hi ∧ v.1.2.length = 2 ^ v.1.1 ∧ Bits v.1.2 ∧ v.2.Ok (n + 20)) ∧ callN ds (k + 4) 17 [.r 2, .d (.int lo), .d (.int hi)] (b.sto ++ T) = .ok (.d (gateD v.1.1 v.1.2)) (v.2.sto ++ T) := by
  obtain ⟨v, ⟨hv0, hv1, hb1⟩, e⟩ := draw_so (k + 1) b n T ((hi : Int) - lo + 1) hb (by omega) (by omega) (by omega)
  generalize hm : lo + v.1.toNat = m
  have hm1 : (lo : Int) + v.1 = (m : Int) := by omega
  have hm4 : m ≤ 4 := by omega
  have hp : 2 ^ m ≤ 16 := by
    have : m = 0 ∨ m = 1 ∨ m = 2 ∨ m = 3 ∨ m = 4 := by omega
    rcases this with rfl | rfl | rfl | rfl | rfl <;> decide
  obtain ⟨u, ⟨hu1, hu2, hb2⟩, e2⟩ := values_so k v.2 (n + 1) T (2 ^ m) hb1 (by omega)
  refine ⟨((m, u.1), u.2), ⟨show lo ≤ m by omega, show m ≤ hi by omega, hu1, hu2, hb2.mono (by omega)⟩, eq_of_wp ?_⟩
  have e3 : (1 : Int) * 2 ^ (m : Int).toNat = ((2 ^ m : Nat) : Int) := by rw [Int.one_mul]; simp
  rw [c_17]
  simp only [d_17, retQ_rt, retQ_nx, w_var, w_cst, w_gl, w_bin, w_neg, w_cmp, w_ix, w_call, w_bi, w_nil, w_cons, ws_nil, ws_cons, ws_pass, ws_doc, ws_ret, ws_retN, ws_expr, ws_set, ws_if, ws_for, wi_seq, ws_brk, ws_cont, w_not, w_isN, w_ntN, wq_and, wq_or, w_ife, w_chn, w_tup, w_lst, w_lstR, w_sl, wo_no, wo_yes, w_isi, w_lc, w_lcR, w_lc2, w_gen, w_frz, wi_rng1, wi_rng2, wi_zip, wi_zipS, wi_enm, ws_tp, ws_par, ws_setI, nxQ_nx, nxQ_rt, nxQ_bk, nxQ_ct, brQ_t, brQ_f, alQ_s, wp_ok, List.getElem?_cons_zero, List.getElem?_cons_succ, List.set_cons_zero, List.set_cons_succ, List.length_cons, List.length_nil, List.map_cons, List.map_nil, List.cons_append, List.nil_append, List.replicate_succ, List.replicate_zero, Bi.f, allD, Option.map_some, wb_add, wb_sub, wb_mul, wb_mod, wb_fdiv, tru_b, tru_i, cb_le, cb_lt, cb_ge, cb_gt, cb_eq, cb_ne, wc_of, brQ_b, if_true, if_false, Bool.false_eq_true, ft_l, ft_t, fl_l, fl_t, fi_i, ty_t, ty_l, ty_i, ty_b, w_truncF, ix_t0, ix_t1, ix_t2, ix_t3, isi_tt, isi_lt, isi_it, isi_ii, isi_bi, isi_bb, isi_ib, w_dct, wv_nil, wv_cons, w_app, w_rem, mQ_r, Nat.reduceAdd, Nat.zero_add, Nat.reduceMul, Nat.reduceSub, Int.reduceAdd, Int.reduceSub, Int.reduceMul, Int.reduceLT, Int.reduceLE, Int.reduceEq, Int.reduceBEq, Int.reduceNeg, Int.reduceToNat, Int.cast_ofNat_Int, decide_true, decide_false, Bool.not_true, Bool.not_false, beq_self_eq_true, Bool.true_and, Bool.and_true, true_and, and_true, e, hm1]
  rw [wb_shl (by omega) (by omega) (by decide), e3]
  simp only [e2, w_var, w_cst, w_gl, w_bin, w_neg, w_cmp, w_ix, w_call, w_bi, w_nil, w_cons, ws_nil, ws_cons, ws_pass, ws_doc, ws_ret, ws_retN, ws_expr, ws_set, ws_if, ws_for, wi_seq, ws_brk, ws_cont, w_not, w_isN, w_ntN, wq_and, wq_or, w_ife, w_chn, w_tup, w_lst, w_lstR, w_sl, wo_no, wo_yes, w_isi, w_lc, w_lcR, w_lc2, w_gen, w_frz, wi_rng1, wi_rng2, wi_zip, wi_zipS, wi_enm, ws_tp, ws_par, ws_setI, nxQ_nx, nxQ_rt, nxQ_bk, nxQ_ct, brQ_t, brQ_f, alQ_s, wp_ok, List.getElem?_cons_zero, List.getElem?_cons_succ, List.set_cons_zero, List.set_cons_succ, List.length_cons, List.length_nil, List.map_cons, List.map_nil, List.cons_append, List.nil_append, List.replicate_succ, List.replicate_zero, Bi.f, allD, Option.map_some, wb_add, wb_sub, wb_mul, wb_mod, wb_fdiv, tru_b, tru_i, cb_le, cb_lt, cb_ge, cb_gt, cb_eq, cb_ne, wc_of, brQ_b, if_true, if_false, Bool.false_eq_true, ft_l, ft_t, fl_l, fl_t, fi_i, ty_t, ty_l, ty_i, ty_b, w_truncF, ix_t0, ix_t1, ix_t2, ix_t3, isi_tt, isi_lt, isi_it, isi_ii, isi_bi, isi_bb, isi_ib, w_dct, wv_nil, wv_cons, w_app, w_rem, mQ_r, Nat.reduceAdd, Nat.zero_add, Nat.reduceMul, Nat.reduceSub, Int.reduceAdd, Int.reduceSub, Int.reduceMul, Int.reduceLT, Int.reduceLE, Int.reduceEq, Int.reduceBEq, Int.reduceNeg, Int.reduceToNat, Int.cast_ofNat_Int, decide_true, decide_false, Bool.not_true, Bool.not_false, beq_self_eq_true, Bool.true_and, Bool.and_true, true_and, and_true]
  ((repeat' apply And.intro) <;> first | trivial | rfl | assumption | skip)
def toldL : List (Nat × List Int) := [(1, [0, 0]), (1, [1, 1]), (1, [0, 1]), (1, [1, 0]), (2, [0, 0, 0, 1]), (2, [0, 1, 1, 1]), (2, [1, 1, 0, 1]), (2, [0, 0, 1, 0]), (2, [0, 1, 1, 0]), (2, [1, 0, 0, 1]), (2, [1, 0, 0, 0]), (2, [1, 1, 1, 0]),
  (3, [0, 0, 0, 1, 0, 1, 1, 1]), (3, [0, 1, 1, 0, 1, 0, 0, 1]), (3, [0, 1, 0, 1, 0, 0, 1, 1])]
def gp (g : Nat × List Int) : D := gateD g.1 g.2
theorem told_so (k : Nat) (S : Sto) : callN ds (k + 1) 15 [] S = .ok (.d (.list (toldL.map gp))) S := by
  with_unfolding_all rfl
structure GV (g : Nat × List Int) : Prop where
  n1 : 1 ≤ g.1
  n4 : g.1 ≤ 4
  vl : g.2.length = 2 ^ g.1
  vb : Bits g.2
theorem told_GV : ∀ g ∈ toldL, GV g := by
  have h : toldL.all (fun g => decide (1 ≤ g.1) && decide (g.1 ≤ 3) && decide (g.2.length = 2 ^ g.1) && g.2.all fun b => decide (b = 0) || decide (b = 1)) = true := by decide
  intro g hg
  have := List.all_eq_true.mp h g hg
  simp only [Bool.and_eq_true, decide_eq_true_eq, List.all_eq_true, Bool.or_eq_true] at this
  exact ⟨this.1.1.1, by omega, this.1.2, this.2⟩
theorem any_gate_so (k : Nat) (b : Bs) (n : Nat) (T : Sto) (hi : Nat) (hb : b.Ok n) (hn : n + 30 ≤ 1000000) (h2 : 1 ≤ hi) (h3 : hi ≤ 4) :
    ∃ v : (Nat × List Int) × Bs, (v.1.1 ≤ hi ∧ GV v.1 ∧ v.2.Ok (n + 30)) ∧ callN ds (k + 5) 4 [.r 2, .d (.int hi)] (b.sto ++ T) = .ok (.d (gp v.1)) (v.2.sto ++ T) := by
  have h : wp (callN ds (k + 5) 4 [.r 2, .d (.int hi)] (b.sto ++ T)) fun x S' => ∃ v : (Nat × List Int) × Bs, (v.1.1 ≤ hi ∧ GV v.1 ∧ v.2.Ok (n + 30)) ∧ x = .d (gp v.1) ∧ S' = v.2.sto ++ T := by
    rw [c_4]
    simp only [d_4, retQ_rt, retQ_nx, w_var, w_cst, w_gl, w_bin, w_neg, w_cmp, w_ix, w_call, w_bi, w_nil, w_cons, ws_nil, ws_cons, ws_pass, ws_doc, ws_ret, ws_retN, ws_expr, ws_set, ws_if, ws_for, wi_seq, ws_brk, ws_cont, w_not, w_isN, w_ntN, wq_and, wq_or, w_ife, w_chn, w_tup, w_lst, w_lstR, w_sl, wo_no, wo_yes, w_isi, w_lc, w_lcR, w_lc2, w_gen, w_frz, wi_rng1, wi_rng2, wi_zip, wi_zipS, wi_enm, ws_tp, ws_par, ws_setI, nxQ_nx, nxQ_rt, nxQ_bk, nxQ_ct, brQ_t, brQ_f, alQ_s, wp_ok, List.getElem?_cons_zero, List.getElem?_cons_succ, List.set_cons_zero, List.set_cons_succ, List.length_cons, List.length_nil, List.map_cons, List.map_nil, List.cons_append, List.nil_append, List.replicate_succ, List.replicate_zero, Bi.f, allD, Option.map_some, wb_add, wb_sub, wb_mul, wb_mod, wb_fdiv, tru_b, tru_i, cb_le, cb_lt, cb_ge, cb_gt, cb_eq, cb_ne, wc_of, brQ_b, if_true, if_false, Bool.false_eq_true, ft_l, ft_t, fl_l, fl_t, fi_i, ty_t, ty_l, ty_i, ty_b, w_truncF, ix_t0, ix_t1, ix_t2, ix_t3, isi_tt, isi_lt, isi_it, isi_ii, isi_bi, isi_bb, isi_ib, w_dct, wv_nil, wv_cons, w_app, w_rem, mQ_r, Nat.reduceAdd, Nat.zero_add, Nat.reduceMul, Nat.reduceSub, Int.reduceAdd, Int.reduceSub, Int.reduceMul, Int.reduceLT, Int.reduceLE, Int.reduceEq, Int.reduceBEq, Int.reduceNeg, Int.reduceToNat, Int.cast_ofNat_Int, decide_true, decide_false, Bool.not_true, Bool.not_false, beq_self_eq_true, Bool.true_and, Bool.and_true, true_and, and_true]
    refine wp_of_ex (draw_so (k + 2) b n T 2 hb (by omega) (by decide) (by decide)) fun v hv => ?_
    obtain ⟨hv0, hv1, hb1⟩ := hv
    simp only [w_var, w_cst, w_gl, w_bin, w_neg, w_cmp, w_ix, w_call, w_bi, w_nil, w_cons, ws_nil, ws_cons, ws_pass, ws_doc, ws_ret, ws_retN, ws_expr, ws_set, ws_if, ws_for, wi_seq, ws_brk, ws_cont, w_not, w_isN, w_ntN, wq_and, wq_or, w_ife, w_chn, w_tup, w_lst, w_lstR, w_sl, wo_no, wo_yes, w_isi, w_lc, w_lcR, w_lc2, w_gen, w_frz, wi_rng1, wi_rng2, wi_zip, wi_zipS, wi_enm, ws_tp, ws_par, ws_setI, nxQ_nx, nxQ_rt, nxQ_bk, nxQ_ct, brQ_t, brQ_f, alQ_s, wp_ok, List.getElem?_cons_zero, List.getElem?_cons_succ, List.set_cons_zero, List.set_cons_succ, List.length_cons, List.length_nil, List.map_cons, List.map_nil, List.cons_append, List.nil_append, List.replicate_succ, List.replicate_zero, Bi.f, allD, Option.map_some, wb_add, wb_sub, wb_mul, wb_mod, wb_fdiv, tru_b, tru_i, cb_le, cb_lt, cb_ge, cb_gt, cb_eq, cb_ne, wc_of, brQ_b, if_true, if_false, Bool.false_eq_true, ft_l, ft_t, fl_l, fl_t, fi_i, ty_t, ty_l, ty_i, ty_b, w_truncF, ix_t0, ix_t1, ix_t2, ix_t3, isi_tt, isi_lt, isi_it, isi_ii, isi_bi, isi_bb, isi_ib, w_dct, wv_nil, wv_cons, w_app, w_rem, mQ_r, Nat.reduceAdd, Nat.zero_add, Nat.reduceMul, Nat.reduceSub, Int.reduceAdd, Int.reduceSub, Int.reduceMul, Int.reduceLT, Int.reduceLE, Int.reduceEq, Int.reduceBEq, Int.reduceNeg, Int.reduceToNat, Int.cast_ofNat_Int, decide_true, decide_false, Bool.not_true, Bool.not_false, beq_self_eq_true, Bool.true_and, Bool.and_true, true_and, and_true]
    by_cases hz : v.1 = 0
    · rw [hz]
      simp only [w_var, w_cst, w_gl, w_bin, w_neg, w_cmp, w_ix, w_call, w_bi, w_nil, w_cons, ws_nil, ws_cons, ws_pass, ws_doc, ws_ret, ws_retN, ws_expr, ws_set, ws_if, ws_for, wi_seq, ws_brk, ws_cont, w_not, w_isN, w_ntN, wq_and, wq_or, w_ife, w_chn, w_tup, w_lst, w_lstR, w_sl, wo_no, wo_yes, w_isi, w_lc, w_lcR, w_lc2, w_gen, w_frz, wi_rng1, wi_rng2, wi_zip, wi_zipS, wi_enm, ws_tp, ws_par, ws_setI, nxQ_nx, nxQ_rt, nxQ_bk, nxQ_ct, brQ_t, brQ_f, alQ_s, wp_ok, List.getElem?_cons_zero, List.getElem?_cons_succ, List.set_cons_zero, List.set_cons_succ, List.length_cons, List.length_nil, List.map_cons, List.map_nil, List.cons_append, List.nil_append, List.replicate_succ, List.replicate_zero, Bi.f, allD, Option.map_some, wb_add, wb_sub, wb_mul, wb_mod, wb_fdiv, tru_b, tru_i, cb_le, cb_lt, cb_ge, cb_gt, cb_eq, cb_ne, wc_of, brQ_b, if_true, if_false, Bool.false_eq_true, ft_l, ft_t, fl_l, fl_t, fi_i, ty_t, ty_l, ty_i, ty_b, w_truncF, ix_t0, ix_t1, ix_t2, ix_t3, isi_tt, isi_lt, isi_it, isi_ii, isi_bi, isi_bb, isi_ib, w_dct, wv_nil, wv_cons, w_app, w_rem, mQ_r, Nat.reduceAdd, Nat.zero_add, Nat.reduceMul, Nat.reduceSub, Int.reduceAdd, Int.reduceSub, Int.reduceMul, Int.reduceLT, Int.reduceLE, Int.reduceEq, Int.reduceBEq, Int.reduceNeg, Int.reduceToNat, Int.cast_ofNat_Int, decide_true, decide_false, Bool.not_true, Bool.not_false, beq_self_eq_true, Bool.true_and, Bool.and_true, true_and, and_true]
      refine wp_of_ex (gate_so k v.2 (n + 1) T 1 hi hb1 (by omega) (by omega) (by omega) h3) fun u hu => ?_
      obtain ⟨q1, q2, q3, q4, q5⟩ := hu
      exact ⟨(u.1, u.2), ⟨q2, ⟨q1, Nat.le_trans q2 h3, q3, q4⟩, q5.mono (by omega)⟩, rfl, rfl⟩
    · rw [if_neg (by simpa using hz)]
      simp only [w_var, w_cst, w_gl, w_bin, w_neg, w_cmp, w_ix, w_call, w_bi, w_nil, w_cons, ws_nil, ws_cons, ws_pass, ws_doc, ws_ret, ws_retN, ws_expr, ws_set, ws_if, ws_for, wi_seq, ws_brk, ws_cont, w_not, w_isN, w_ntN, wq_and, wq_or, w_ife, w_chn, w_tup, w_lst, w_lstR, w_sl, wo_no, wo_yes, w_isi, w_lc, w_lcR, w_lc2, w_gen, w_frz, wi_rng1, wi_rng2, wi_zip, wi_zipS, wi_enm, ws_tp, ws_par, ws_setI, nxQ_nx, nxQ_rt, nxQ_bk, nxQ_ct, brQ_t, brQ_f, alQ_s, wp_ok, List.getElem?_cons_zero, List.getElem?_cons_succ, List.set_cons_zero, List.set_cons_succ, List.length_cons, List.length_nil, List.map_cons, List.map_nil, List.cons_append, List.nil_append, List.replicate_succ, List.replicate_zero, Bi.f, allD, Option.map_some, wb_add, wb_sub, wb_mul, wb_mod, wb_fdiv, tru_b, tru_i, cb_le, cb_lt, cb_ge, cb_gt, cb_eq, cb_ne, wc_of, brQ_b, if_true, if_false, Bool.false_eq_true, ft_l, ft_t, fl_l, fl_t, fi_i, ty_t, ty_l, ty_i, ty_b, w_truncF, ix_t0, ix_t1, ix_t2, ix_t3, isi_tt, isi_lt, isi_it, isi_ii, isi_bi, isi_bb, isi_ib, w_dct, wv_nil, wv_cons, w_app, w_rem, mQ_r, Nat.reduceAdd, Nat.zero_add, Nat.reduceMul, Nat.reduceSub, Int.reduceAdd, Int.reduceSub, Int.reduceMul, Int.reduceLT, Int.reduceLE, Int.reduceEq, Int.reduceBEq, Int.reduceNeg, Int.reduceToNat, Int.cast_ofNat_Int, decide_true, decide_false, Bool.not_true, Bool.not_false, beq_self_eq_true, Bool.true_and, Bool.and_true, true_and, and_true, told_so, seqIt, List.map_map]
      refine lc_pure (Xv.d ∘ gp) (fun g => decide ((g.1 : Int) ≤ hi)) gp toldL [] (fun g hg => ⟨_, rfl, ?_, fun _ => ?_⟩) ?_
      · simp only [Function.comp_def, wipeR, wc_yes, w_var, w_cst, w_gl, w_bin, w_neg, w_cmp, w_ix, w_call, w_bi, w_nil, w_cons, ws_nil, ws_cons, ws_pass, ws_doc, ws_ret, ws_retN, ws_expr, ws_set, ws_if, ws_for, wi_seq, ws_brk, ws_cont, w_not, w_isN, w_ntN, wq_and, wq_or, w_ife, w_chn, w_tup, w_lst, w_lstR, w_sl, wo_no, wo_yes, w_isi, w_lc, w_lcR, w_lc2, w_gen, w_frz, wi_rng1, wi_rng2, wi_zip, wi_zipS, wi_enm, ws_tp, ws_par, ws_setI, nxQ_nx, nxQ_rt, nxQ_bk, nxQ_ct, brQ_t, brQ_f, alQ_s, wp_ok, List.getElem?_cons_zero, List.getElem?_cons_succ, List.set_cons_zero, List.set_cons_succ, List.length_cons, List.length_nil, List.map_cons, List.map_nil, List.cons_append, List.nil_append, List.replicate_succ, List.replicate_zero, Bi.f, allD, Option.map_some, wb_add, wb_sub, wb_mul, wb_mod, wb_fdiv, tru_b, tru_i, cb_le, cb_lt, cb_ge, cb_gt, cb_eq, cb_ne, wc_of, brQ_b, if_true, if_false, Bool.false_eq_true, ft_l, ft_t, fl_l, fl_t, fi_i, ty_t, ty_l, ty_i, ty_b, w_truncF, ix_t0, ix_t1, ix_t2, ix_t3, isi_tt, isi_lt, isi_it, isi_ii, isi_bi, isi_bb, isi_ib, w_dct, wv_nil, wv_cons, w_app, w_rem, mQ_r, Nat.reduceAdd, Nat.zero_add, Nat.reduceMul, Nat.reduceSub, Int.reduceAdd, Int.reduceSub, Int.reduceMul, Int.reduceLT, Int.reduceLE, Int.reduceEq, Int.reduceBEq, Int.reduceNeg, Int.reduceToNat, Int.cast_ofNat_Int, decide_true, decide_false, Bool.not_true, Bool.not_false, beq_self_eq_true, Bool.true_and, Bool.and_true, true_and, and_true, gp, gateD]
      · simp only [Function.comp_def, wipeR, w_var, w_cst, w_gl, w_bin, w_neg, w_cmp, w_ix, w_call, w_bi, w_nil, w_cons, ws_nil, ws_cons, ws_pass, ws_doc, ws_ret, ws_retN, ws_expr, ws_set, ws_if, ws_for, wi_seq, ws_brk, ws_cont, w_not, w_isN, w_ntN, wq_and, wq_or, w_ife, w_chn, w_tup, w_lst, w_lstR, w_sl, wo_no, wo_yes, w_isi, w_lc, w_lcR, w_lc2, w_gen, w_frz, wi_rng1, wi_rng2, wi_zip, wi_zipS, wi_enm, ws_tp, ws_par, ws_setI, nxQ_nx, nxQ_rt, nxQ_bk, nxQ_ct, brQ_t, brQ_f, alQ_s, wp_ok, List.getElem?_cons_zero, List.getElem?_cons_succ, List.set_cons_zero, List.set_cons_succ, List.length_cons, List.length_nil, List.map_cons, List.map_nil, List.cons_append, List.nil_append, List.replicate_succ, List.replicate_zero, Bi.f, allD, Option.map_some, wb_add, wb_sub, wb_mul, wb_mod, wb_fdiv, tru_b, tru_i, cb_le, cb_lt, cb_ge, cb_gt, cb_eq, cb_ne, wc_of, brQ_b, if_true, if_false, Bool.false_eq_true, ft_l, ft_t, fl_l, fl_t, fi_i, ty_t, ty_l, ty_i, ty_b, w_truncF, ix_t0, ix_t1, ix_t2, ix_t3, isi_tt, isi_lt, isi_it, isi_ii, isi_bi, isi_bb, isi_ib, w_dct, wv_nil, wv_cons, w_app, w_rem, mQ_r, Nat.reduceAdd, Nat.zero_add, Nat.reduceMul, Nat.reduceSub, Int.reduceAdd, Int.reduceSub, Int.reduceMul, Int.reduceLT, Int.reduceLE, Int.reduceEq, Int.reduceBEq, Int.reduceNeg, Int.reduceToNat, Int.cast_ofNat_Int, decide_true, decide_false, Bool.not_true, Bool.not_false, beq_self_eq_true, Bool.true_and, Bool.and_true, true_and, and_true]
      · rw [List.nil_append]
        refine wp_of_ex (of_list (k + 1) v.2 (n + 1) T _ hb1 (by omega) ?_ ?_) fun u hu => ?_
        · have : ((1, [0, 0]) : Nat × List Int) ∈ toldL.filter (fun g => decide ((g.1 : Int) ≤ hi)) := by
            refine List.mem_filter.mpr ⟨by decide, ?_⟩
            rw [decide_eq_true_eq]; show ((1 : Nat) : Int) ≤ hi; omega
          intro z
          rw [List.map_eq_nil_iff] at z
          rw [z] at this
          exact absurd this List.not_mem_nil
        · rw [List.length_map]
          have := List.length_filter_le (fun g : Nat × List Int => decide ((g.1 : Int) ≤ hi)) toldL
          have e15 : toldL.length = 15 := rfl
          omega
        · obtain ⟨hu1, hu2⟩ := hu
          obtain ⟨g, hg, e⟩ := List.mem_map.mp hu1
          obtain ⟨hg1, hg2⟩ := List.mem_filter.mp hg
          refine ⟨(g, u.2), ⟨?_, told_GV g hg1, hu2.mono (by omega)⟩, by rw [e], rfl⟩
          have := of_decide_eq_true hg2
          show g.1 ≤ hi
          omega
  obtain ⟨x, S', e, v, hv, rfl, rfl⟩ := wp_eq h
  exact ⟨v, hv, e⟩
theorem law_tie_so (k : Nat) (b : Bs) (n : Nat) (T : Sto) (lo hi : Nat) (hb : b.Ok n) (hn : n + 30 ≤ 1000000) (h1 : 1 ≤ lo) (h2 : lo ≤ hi) (h3 : hi ≤ 4) :
    ∃ v : (Nat × List (List Int)) × Bs, (lo ≤ v.1.1 ∧ v.1.1 ≤ hi ∧ v.1.2.Sublist (rowsL v.1.1) ∧ v.2.Ok (n + 30)) ∧ callN ds (k + 4) 8 [.r 2, .d (.int lo), .d (.int hi)] (b.sto ++ T) = .ok (.d (tieD v.1.1 v.1.2)) (v.2.sto ++ T) := by
  have h : wp (callN ds (k + 4) 8 [.r 2, .d (.int lo), .d (.int hi)] (b.sto ++ T)) fun x S' => ∃ v : (Nat × List (List Int)) × Bs, (lo ≤ v.1.1 ∧ v.1.1 ≤ hi ∧ v.1.2.Sublist (rowsL v.1.1) ∧ v.2.Ok (n + 30)) ∧ x = .d (tieD v.1.1 v.1.2) ∧ S' = v.2.sto ++ T := by
    rw [c_8]
    simp only [d_8, retQ_rt, retQ_nx, w_var, w_cst, w_gl, w_bin, w_neg, w_cmp, w_ix, w_call, w_bi, w_nil, w_cons, ws_nil, ws_cons, ws_pass, ws_doc, ws_ret, ws_retN, ws_expr, ws_set, ws_if, ws_for, wi_seq, ws_brk, ws_cont, w_not, w_isN, w_ntN, wq_and, wq_or, w_ife, w_chn, w_tup, w_lst, w_lstR, w_sl, wo_no, wo_yes, w_isi, w_lc, w_lcR, w_lc2, w_gen, w_frz, wi_rng1, wi_rng2, wi_zip, wi_zipS, wi_enm, ws_tp, ws_par, ws_setI, nxQ_nx, nxQ_rt, nxQ_bk, nxQ_ct, brQ_t, brQ_f, alQ_s, wp_ok, List.getElem?_cons_zero, List.getElem?_cons_succ, List.set_cons_zero, List.set_cons_succ, List.length_cons, List.length_nil, List.map_cons, List.map_nil, List.cons_append, List.nil_append, List.replicate_succ, List.replicate_zero, Bi.f, allD, Option.map_some, wb_add, wb_sub, wb_mul, wb_mod, wb_fdiv, tru_b, tru_i, cb_le, cb_lt, cb_ge, cb_gt, cb_eq, cb_ne, wc_of, brQ_b, if_true, if_false, Bool.false_eq_true, ft_l, ft_t, fl_l, fl_t, fi_i, ty_t, ty_l, ty_i, ty_b, w_truncF, ix_t0, ix_t1, ix_t2, ix_t3, isi_tt, isi_lt, isi_it, isi_ii, isi_bi, isi_bb, isi_ib, w_dct, wv_nil, wv_cons, w_app, w_rem, mQ_r, Nat.reduceAdd, Nat.zero_add, Nat.reduceMul, Nat.reduceSub, Int.reduceAdd, Int.reduceSub, Int.reduceMul, Int.reduceLT, Int.reduceLE, Int.reduceEq, Int.reduceBEq, Int.reduceNeg, Int.reduceToNat, Int.cast_ofNat_Int, decide_true, decide_false, Bool.not_true, Bool.not_false, beq_self_eq_true, Bool.true_and, Bool.and_true, true_and, and_true]
    refine wp_of_ex (draw_so (k + 1) b n T ((hi : Int) - lo + 1) hb (by omega) (by omega) (by omega)) fun v hv => ?_
    obtain ⟨hv0, hv1, hb1⟩ := hv
    generalize hm : lo + v.1.toNat = m
    have hm1 : (lo : Int) + v.1 = (m : Int) := by omega
    have hm4 : m ≤ 4 := by omega
    simp only [w_var, w_cst, w_gl, w_bin, w_neg, w_cmp, w_ix, w_call, w_bi, w_nil, w_cons, ws_nil, ws_cons, ws_pass, ws_doc, ws_ret, ws_retN, ws_expr, ws_set, ws_if, ws_for, wi_seq, ws_brk, ws_cont, w_not, w_isN, w_ntN, wq_and, wq_or, w_ife, w_chn, w_tup, w_lst, w_lstR, w_sl, wo_no, wo_yes, w_isi, w_lc, w_lcR, w_lc2, w_gen, w_frz, wi_rng1, wi_rng2, wi_zip, wi_zipS, wi_enm, ws_tp, ws_par, ws_setI, nxQ_nx, nxQ_rt, nxQ_bk, nxQ_ct, brQ_t, brQ_f, alQ_s, wp_ok, List.getElem?_cons_zero, List.getElem?_cons_succ, List.set_cons_zero, List.set_cons_succ, List.length_cons, List.length_nil, List.map_cons, List.map_nil, List.cons_append, List.nil_append, List.replicate_succ, List.replicate_zero, Bi.f, allD, Option.map_some, wb_add, wb_sub, wb_mul, wb_mod, wb_fdiv, tru_b, tru_i, cb_le, cb_lt, cb_ge, cb_gt, cb_eq, cb_ne, wc_of, brQ_b, if_true, if_false, Bool.false_eq_true, ft_l, ft_t, fl_l, fl_t, fi_i, ty_t, ty_l, ty_i, ty_b, w_truncF, ix_t0, ix_t1, ix_t2, ix_t3, isi_tt, isi_lt, isi_it, isi_ii, isi_bi, isi_bb, isi_ib, w_dct, wv_nil, wv_cons, w_app, w_rem, mQ_r, Nat.reduceAdd, Nat.zero_add, Nat.reduceMul, Nat.reduceSub, Int.reduceAdd, Int.reduceSub, Int.reduceMul, Int.reduceLT, Int.reduceLE, Int.reduceEq, Int.reduceBEq, Int.reduceNeg, Int.reduceToNat, Int.cast_ofNat_Int, decide_true, decide_false, Bool.not_true, Bool.not_false, beq_self_eq_true, Bool.true_and, Bool.and_true, true_and, and_true, hm1]
    refine wp_of_ex (draw_so (k + 1) v.2 (n + 1) T 3 hb1 (by omega) (by decide) (by decide)) fun u hu => ?_
    obtain ⟨hu0, hu1, hb2⟩ := hu
    simp only [w_var, w_cst, w_gl, w_bin, w_neg, w_cmp, w_ix, w_call, w_bi, w_nil, w_cons, ws_nil, ws_cons, ws_pass, ws_doc, ws_ret, ws_retN, ws_expr, ws_set, ws_if, ws_for, wi_seq, ws_brk, ws_cont, w_not, w_isN, w_ntN, wq_and, wq_or, w_ife, w_chn, w_tup, w_lst, w_lstR, w_sl, wo_no, wo_yes, w_isi, w_lc, w_lcR, w_lc2, w_gen, w_frz, wi_rng1, wi_rng2, wi_zip, wi_zipS, wi_enm, ws_tp, ws_par, ws_setI, nxQ_nx, nxQ_rt, nxQ_bk, nxQ_ct, brQ_t, brQ_f, alQ_s, wp_ok, List.getElem?_cons_zero, List.getElem?_cons_succ, List.set_cons_zero, List.set_cons_succ, List.length_cons, List.length_nil, List.map_cons, List.map_nil, List.cons_append, List.nil_append, List.replicate_succ, List.replicate_zero, Bi.f, allD, Option.map_some, wb_add, wb_sub, wb_mul, wb_mod, wb_fdiv, tru_b, tru_i, cb_le, cb_lt, cb_ge, cb_gt, cb_eq, cb_ne, wc_of, brQ_b, if_true, if_false, Bool.false_eq_true, ft_l, ft_t, fl_l, fl_t, fi_i, ty_t, ty_l, ty_i, ty_b, w_truncF, ix_t0, ix_t1, ix_t2, ix_t3, isi_tt, isi_lt, isi_it, isi_ii, isi_bi, isi_bb, isi_ib, w_dct, wv_nil, wv_cons, w_app, w_rem, mQ_r, Nat.reduceAdd, Nat.zero_add, Nat.reduceMul, Nat.reduceSub, Int.reduceAdd, Int.reduceSub, Int.reduceMul, Int.reduceLT, Int.reduceLE, Int.reduceEq, Int.reduceBEq, Int.reduceNeg, Int.reduceToNat, Int.cast_ofNat_Int, decide_true, decide_false, Bool.not_true, Bool.not_false, beq_self_eq_true, Bool.true_and, Bool.and_true, true_and, and_true, law_rows_so (k + 2) (u.2.sto ++ T) m (by omega), seqIt, List.map_map]
    have hlen : (rowsL m).length ≤ 16 := by
      rw [rowsL_len]
      exact Nat.le_trans (Nat.pow_le_pow_right (by decide) hm4) (by decide)
    refine lc_part (Xv.d ∘ rowD) rowD (fun j S => ∃ b : Bs, b.Ok (n + 2 + j) ∧ S = b.sto ++ T) (rowsL m) ⟨u.2, hb2, rfl⟩ (fun j S r hr hj => ?_) fun cs S hs hj => ?_
    · obtain ⟨b, hb, rfl⟩ := hj
      have hj : j < (rowsL m).length := (List.getElem?_eq_some_iff.mp hr).1
      refine ⟨_, rfl, ?_⟩
      simp only [wipeR, wc_yes, w_var, w_cst, w_gl, w_bin, w_neg, w_cmp, w_ix, w_call, w_bi, w_nil, w_cons, ws_nil, ws_cons, ws_pass, ws_doc, ws_ret, ws_retN, ws_expr, ws_set, ws_if, ws_for, wi_seq, ws_brk, ws_cont, w_not, w_isN, w_ntN, wq_and, wq_or, w_ife, w_chn, w_tup, w_lst, w_lstR, w_sl, wo_no, wo_yes, w_isi, w_lc, w_lcR, w_lc2, w_gen, w_frz, wi_rng1, wi_rng2, wi_zip, wi_zipS, wi_enm, ws_tp, ws_par, ws_setI, nxQ_nx, nxQ_rt, nxQ_bk, nxQ_ct, brQ_t, brQ_f, alQ_s, wp_ok, List.getElem?_cons_zero, List.getElem?_cons_succ, List.set_cons_zero, List.set_cons_succ, List.length_cons, List.length_nil, List.map_cons, List.map_nil, List.cons_append, List.nil_append, List.replicate_succ, List.replicate_zero, Bi.f, allD, Option.map_some, wb_add, wb_sub, wb_mul, wb_mod, wb_fdiv, tru_b, tru_i, cb_le, cb_lt, cb_ge, cb_gt, cb_eq, cb_ne, wc_of, brQ_b, if_true, if_false, Bool.false_eq_true, ft_l, ft_t, fl_l, fl_t, fi_i, ty_t, ty_l, ty_i, ty_b, w_truncF, ix_t0, ix_t1, ix_t2, ix_t3, isi_tt, isi_lt, isi_it, isi_ii, isi_bi, isi_bb, isi_ib, w_dct, wv_nil, wv_cons, w_app, w_rem, mQ_r, Nat.reduceAdd, Nat.zero_add, Nat.reduceMul, Nat.reduceSub, Int.reduceAdd, Int.reduceSub, Int.reduceMul, Int.reduceLT, Int.reduceLE, Int.reduceEq, Int.reduceBEq, Int.reduceNeg, Int.reduceToNat, Int.cast_ofNat_Int, decide_true, decide_false, Bool.not_true, Bool.not_false, beq_self_eq_true, Bool.true_and, Bool.and_true, true_and, and_true]
      refine wp_of_ex (draw_so (k + 1) b (n + 2 + j) T 4 hb (by omega) (by decide) (by decide)) fun w hw => ?_
      simp only [w_var, w_cst, w_gl, w_bin, w_neg, w_cmp, w_ix, w_call, w_bi, w_nil, w_cons, ws_nil, ws_cons, ws_pass, ws_doc, ws_ret, ws_retN, ws_expr, ws_set, ws_if, ws_for, wi_seq, ws_brk, ws_cont, w_not, w_isN, w_ntN, wq_and, wq_or, w_ife, w_chn, w_tup, w_lst, w_lstR, w_sl, wo_no, wo_yes, w_isi, w_lc, w_lcR, w_lc2, w_gen, w_frz, wi_rng1, wi_rng2, wi_zip, wi_zipS, wi_enm, ws_tp, ws_par, ws_setI, nxQ_nx, nxQ_rt, nxQ_bk, nxQ_ct, brQ_t, brQ_f, alQ_s, wp_ok, List.getElem?_cons_zero, List.getElem?_cons_succ, List.set_cons_zero, List.set_cons_succ, List.length_cons, List.length_nil, List.map_cons, List.map_nil, List.cons_append, List.nil_append, List.replicate_succ, List.replicate_zero, Bi.f, allD, Option.map_some, wb_add, wb_sub, wb_mul, wb_mod, wb_fdiv, tru_b, tru_i, cb_le, cb_lt, cb_ge, cb_gt, cb_eq, cb_ne, wc_of, brQ_b, if_true, if_false, Bool.false_eq_true, ft_l, ft_t, fl_l, fl_t, fi_i, ty_t, ty_l, ty_i, ty_b, w_truncF, ix_t0, ix_t1, ix_t2, ix_t3, isi_tt, isi_lt, isi_it, isi_ii, isi_bi, isi_bb, isi_ib, w_dct, wv_nil, wv_cons, w_app, w_rem, mQ_r, Nat.reduceAdd, Nat.zero_add, Nat.reduceMul, Nat.reduceSub, Int.reduceAdd, Int.reduceSub, Int.reduceMul, Int.reduceLT, Int.reduceLE, Int.reduceEq, Int.reduceBEq, Int.reduceNeg, Int.reduceToNat, Int.cast_ofNat_Int, decide_true, decide_false, Bool.not_true, Bool.not_false, beq_self_eq_true, Bool.true_and, Bool.and_true, true_and, and_true, Function.comp_def]
      exact ⟨w.2, hw.2.2, rfl⟩
    · obtain ⟨b, hb, rfl⟩ := hj
      exact ⟨((m, cs), b), ⟨show lo ≤ m by omega, show m ≤ hi by omega, hs, hb.mono (by omega)⟩, rfl, rfl⟩
  obtain ⟨x, S', e, v, hv, rfl, rfl⟩ := wp_eq h
  exact ⟨v, hv, e⟩
/-! ### the law's own reckoning of gates and ties -/
theorem law_worth (k : Nat) (S : Sto) (n : Int) (vals bs : List Int) (hb : Bits bs) (hl : vals.length = 2 ^ bs.length) : callN ds (k + 1) 24 [.d (gateD n vals), .d (.list (bs.map .int))] S = .ok (.d (.int (worth vals bs))) S := by
  obtain ⟨h, h0⟩ := worth_at hb hl
  refine eq_of_wp ?_
  rw [c_24]
  simp only [d_24, retQ_rt, retQ_nx, w_var, w_cst, w_gl, w_bin, w_neg, w_cmp, w_ix, w_call, w_bi, w_nil, w_cons, ws_nil, ws_cons, ws_pass, ws_doc, ws_ret, ws_retN, ws_expr, ws_set, ws_if, ws_for, wi_seq, ws_brk, ws_cont, w_not, w_isN, w_ntN, wq_and, wq_or, w_ife, w_chn, w_tup, w_lst, w_lstR, w_sl, wo_no, wo_yes, w_isi, w_lc, w_lcR, w_lc2, w_gen, w_frz, wi_rng1, wi_rng2, wi_zip, wi_zipS, wi_enm, ws_tp, ws_par, ws_setI, nxQ_nx, nxQ_rt, nxQ_bk, nxQ_ct, brQ_t, brQ_f, alQ_s, wp_ok, List.getElem?_cons_zero, List.getElem?_cons_succ, List.set_cons_zero, List.set_cons_succ, List.length_cons, List.length_nil, List.map_cons, List.map_nil, List.cons_append, List.nil_append, List.replicate_succ, List.replicate_zero, Bi.f, allD, Option.map_some, wb_add, wb_sub, wb_mul, wb_mod, wb_fdiv, tru_b, tru_i, cb_le, cb_lt, cb_ge, cb_gt, cb_eq, cb_ne, wc_of, brQ_b, if_true, if_false, Bool.false_eq_true, ft_l, ft_t, fl_l, fl_t, fi_i, ty_t, ty_l, ty_i, ty_b, w_truncF, ix_t0, ix_t1, ix_t2, ix_t3, isi_tt, isi_lt, isi_it, isi_ii, isi_bi, isi_bb, isi_ib, w_dct, wv_nil, wv_cons, w_app, w_rem, mQ_r, Nat.reduceAdd, Nat.zero_add, Nat.reduceMul, Nat.reduceSub, Int.reduceAdd, Int.reduceSub, Int.reduceMul, Int.reduceLT, Int.reduceLE, Int.reduceEq, Int.reduceBEq, Int.reduceNeg, Int.reduceToNat, Int.cast_ofNat_Int, decide_true, decide_false, Bool.not_true, Bool.not_false, beq_self_eq_true, Bool.true_and, Bool.and_true, true_and, and_true, seqIt, List.map_map]
  refine for_fold (fun (a : Int) ρ => ∃ v, ρ = [some (.d (gateD n vals)), some (.d (.list (bs.map .int))), some (.d (.int a)), v]) (Xv.d ∘ PyData.int) (fun a b => 2 * a + b) bs 0 _ ⟨none, rfl⟩ (fun a ρ x _ h => ?_) fun ρ' h => ?_
  · obtain ⟨v, rfl⟩ := h
    refine ⟨_, rfl, ?_⟩
    simp only [Function.comp_def, w_var, w_cst, w_gl, w_bin, w_neg, w_cmp, w_ix, w_call, w_bi, w_nil, w_cons, ws_nil, ws_cons, ws_pass, ws_doc, ws_ret, ws_retN, ws_expr, ws_set, ws_if, ws_for, wi_seq, ws_brk, ws_cont, w_not, w_isN, w_ntN, wq_and, wq_or, w_ife, w_chn, w_tup, w_lst, w_lstR, w_sl, wo_no, wo_yes, w_isi, w_lc, w_lcR, w_lc2, w_gen, w_frz, wi_rng1, wi_rng2, wi_zip, wi_zipS, wi_enm, ws_tp, ws_par, ws_setI, nxQ_nx, nxQ_rt, nxQ_bk, nxQ_ct, brQ_t, brQ_f, alQ_s, wp_ok, List.getElem?_cons_zero, List.getElem?_cons_succ, List.set_cons_zero, List.set_cons_succ, List.length_cons, List.length_nil, List.map_cons, List.map_nil, List.cons_append, List.nil_append, List.replicate_succ, List.replicate_zero, Bi.f, allD, Option.map_some, wb_add, wb_sub, wb_mul, wb_mod, wb_fdiv, tru_b, tru_i, cb_le, cb_lt, cb_ge, cb_gt, cb_eq, cb_ne, wc_of, brQ_b, if_true, if_false, Bool.false_eq_true, ft_l, ft_t, fl_l, fl_t, fi_i, ty_t, ty_l, ty_i, ty_b, w_truncF, ix_t0, ix_t1, ix_t2, ix_t3, isi_tt, isi_lt, isi_it, isi_ii, isi_bi, isi_bb, isi_ib, w_dct, wv_nil, wv_cons, w_app, w_rem, mQ_r, Nat.reduceAdd, Nat.zero_add, Nat.reduceMul, Nat.reduceSub, Int.reduceAdd, Int.reduceSub, Int.reduceMul, Int.reduceLT, Int.reduceLE, Int.reduceEq, Int.reduceBEq, Int.reduceNeg, Int.reduceToNat, Int.cast_ofNat_Int, decide_true, decide_false, Bool.not_true, Bool.not_false, beq_self_eq_true, Bool.true_and, Bool.and_true, true_and, and_true]
    exact ⟨.inl (by decide), _, .inl rfl, _, rfl⟩
  · obtain ⟨v, rfl⟩ := h
    simp only [w_var, w_cst, w_gl, w_bin, w_neg, w_cmp, w_ix, w_call, w_bi, w_nil, w_cons, ws_nil, ws_cons, ws_pass, ws_doc, ws_ret, ws_retN, ws_expr, ws_set, ws_if, ws_for, wi_seq, ws_brk, ws_cont, w_not, w_isN, w_ntN, wq_and, wq_or, w_ife, w_chn, w_tup, w_lst, w_lstR, w_sl, wo_no, wo_yes, w_isi, w_lc, w_lcR, w_lc2, w_gen, w_frz, wi_rng1, wi_rng2, wi_zip, wi_zipS, wi_enm, ws_tp, ws_par, ws_setI, nxQ_nx, nxQ_rt, nxQ_bk, nxQ_ct, brQ_t, brQ_f, alQ_s, wp_ok, List.getElem?_cons_zero, List.getElem?_cons_succ, List.set_cons_zero, List.set_cons_succ, List.length_cons, List.length_nil, List.map_cons, List.map_nil, List.cons_append, List.nil_append, List.replicate_succ, List.replicate_zero, Bi.f, allD, Option.map_some, wb_add, wb_sub, wb_mul, wb_mod, wb_fdiv, tru_b, tru_i, cb_le, cb_lt, cb_ge, cb_gt, cb_eq, cb_ne, wc_of, brQ_b, if_true, if_false, Bool.false_eq_true, ft_l, ft_t, fl_l, fl_t, fi_i, ty_t, ty_l, ty_i, ty_b, w_truncF, ix_t0, ix_t1, ix_t2, ix_t3, isi_tt, isi_lt, isi_it, isi_ii, isi_bi, isi_bb, isi_ib, w_dct, wv_nil, wv_cons, w_app, w_rem, mQ_r, Nat.reduceAdd, Nat.zero_add, Nat.reduceMul, Nat.reduceSub, Int.reduceAdd, Int.reduceSub, Int.reduceMul, Int.reduceLT, Int.reduceLE, Int.reduceEq, Int.reduceBEq, Int.reduceNeg, Int.reduceToNat, Int.cast_ofNat_Int, decide_true, decide_false, Bool.not_true, Bool.not_false, beq_self_eq_true, Bool.true_and, Bool.and_true, true_and, and_true, gateD]
    show wp (pIx _ (.d (.int (num bs))) S) _
    rw [ix_t (d := .int (worth vals bs)) (atI_nat h0 (by rw [List.getElem?_map, h]; rfl))]
    ((repeat' apply And.intro) <;> first | trivial | rfl | assumption | skip)
theorem law_worthT (k : Nat) (S : Sto) (n : Int) (vals bs : List Int) (hb : Bits bs) (hl : vals.length = 2 ^ bs.length) : callN ds (k + 1) 24 [.d (gateD n vals), .d (rowD bs)] S = .ok (.d (.int (worth vals bs))) S := by
  obtain ⟨h, h0⟩ := worth_at hb hl
  refine eq_of_wp ?_
  rw [c_24]
  simp only [d_24, rowD, retQ_rt, retQ_nx, w_var, w_cst, w_gl, w_bin, w_neg, w_cmp, w_ix, w_call, w_bi, w_nil, w_cons, ws_nil, ws_cons, ws_pass, ws_doc, ws_ret, ws_retN, ws_expr, ws_set, ws_if, ws_for, wi_seq, ws_brk, ws_cont, w_not, w_isN, w_ntN, wq_and, wq_or, w_ife, w_chn, w_tup, w_lst, w_lstR, w_sl, wo_no, wo_yes, w_isi, w_lc, w_lcR, w_lc2, w_gen, w_frz, wi_rng1, wi_rng2, wi_zip, wi_zipS, wi_enm, ws_tp, ws_par, ws_setI, nxQ_nx, nxQ_rt, nxQ_bk, nxQ_ct, brQ_t, brQ_f, alQ_s, wp_ok, List.getElem?_cons_zero, List.getElem?_cons_succ, List.set_cons_zero, List.set_cons_succ, List.length_cons, List.length_nil, List.map_cons, List.map_nil, List.cons_append, List.nil_append, List.replicate_succ, List.replicate_zero, Bi.f, allD, Option.map_some, wb_add, wb_sub, wb_mul, wb_mod, wb_fdiv, tru_b, tru_i, cb_le, cb_lt, cb_ge, cb_gt, cb_eq, cb_ne, wc_of, brQ_b, if_true, if_false, Bool.false_eq_true, ft_l, ft_t, fl_l, fl_t, fi_i, ty_t, ty_l, ty_i, ty_b, w_truncF, ix_t0, ix_t1, ix_t2, ix_t3, isi_tt, isi_lt, isi_it, isi_ii, isi_bi, isi_bb, isi_ib, w_dct, wv_nil, wv_cons, w_app, w_rem, mQ_r, Nat.reduceAdd, Nat.zero_add, Nat.reduceMul, Nat.reduceSub, Int.reduceAdd, Int.reduceSub, Int.reduceMul, Int.reduceLT, Int.reduceLE, Int.reduceEq, Int.reduceBEq, Int.reduceNeg, Int.reduceToNat, Int.cast_ofNat_Int, decide_true, decide_false, Bool.not_true, Bool.not_false, beq_self_eq_true, Bool.true_and, Bool.and_true, true_and, and_true, seqIt, List.map_map]
  refine for_fold (fun (a : Int) ρ => ∃ v, ρ = [some (.d (gateD n vals)), some (.d (.tuple (bs.map .int))), some (.d (.int a)), v]) (Xv.d ∘ PyData.int) (fun a b => 2 * a + b) bs 0 _ ⟨none, rfl⟩ (fun a ρ x _ h => ?_) fun ρ' h => ?_
  · obtain ⟨v, rfl⟩ := h
    refine ⟨_, rfl, ?_⟩
    simp only [Function.comp_def, w_var, w_cst, w_gl, w_bin, w_neg, w_cmp, w_ix, w_call, w_bi, w_nil, w_cons, ws_nil, ws_cons, ws_pass, ws_doc, ws_ret, ws_retN, ws_expr, ws_set, ws_if, ws_for, wi_seq, ws_brk, ws_cont, w_not, w_isN, w_ntN, wq_and, wq_or, w_ife, w_chn, w_tup, w_lst, w_lstR, w_sl, wo_no, wo_yes, w_isi, w_lc, w_lcR, w_lc2, w_gen, w_frz, wi_rng1, wi_rng2, wi_zip, wi_zipS, wi_enm, ws_tp, ws_par, ws_setI, nxQ_nx, nxQ_rt, nxQ_bk, nxQ_ct, brQ_t, brQ_f, alQ_s, wp_ok, List.getElem?_cons_zero, List.getElem?_cons_succ, List.set_cons_zero, List.set_cons_succ, List.length_cons, List.length_nil, List.map_cons, List.map_nil, List.cons_append, List.nil_append, List.replicate_succ, List.replicate_zero, Bi.f, allD, Option.map_some, wb_add, wb_sub, wb_mul, wb_mod, wb_fdiv, tru_b, tru_i, cb_le, cb_lt, cb_ge, cb_gt, cb_eq, cb_ne, wc_of, brQ_b, if_true, if_false, Bool.false_eq_true, ft_l, ft_t, fl_l, fl_t, fi_i, ty_t, ty_l, ty_i, ty_b, w_truncF, ix_t0, ix_t1, ix_t2, ix_t3, isi_tt, isi_lt, isi_it, isi_ii, isi_bi, isi_bb, isi_ib, w_dct, wv_nil, wv_cons, w_app, w_rem, mQ_r, Nat.reduceAdd, Nat.zero_add, Nat.reduceMul, Nat.reduceSub, Int.reduceAdd, Int.reduceSub, Int.reduceMul, Int.reduceLT, Int.reduceLE, Int.reduceEq, Int.reduceBEq, Int.reduceNeg, Int.reduceToNat, Int.cast_ofNat_Int, decide_true, decide_false, Bool.not_true, Bool.not_false, beq_self_eq_true, Bool.true_and, Bool.and_true, true_and, and_true]
    exact ⟨.inl (by decide), _, .inl rfl, _, rfl⟩
  · obtain ⟨v, rfl⟩ := h
    simp only [w_var, w_cst, w_gl, w_bin, w_neg, w_cmp, w_ix, w_call, w_bi, w_nil, w_cons, ws_nil, ws_cons, ws_pass, ws_doc, ws_ret, ws_retN, ws_expr, ws_set, ws_if, ws_for, wi_seq, ws_brk, ws_cont, w_not, w_isN, w_ntN, wq_and, wq_or, w_ife, w_chn, w_tup, w_lst, w_lstR, w_sl, wo_no, wo_yes, w_isi, w_lc, w_lcR, w_lc2, w_gen, w_frz, wi_rng1, wi_rng2, wi_zip, wi_zipS, wi_enm, ws_tp, ws_par, ws_setI, nxQ_nx, nxQ_rt, nxQ_bk, nxQ_ct, brQ_t, brQ_f, alQ_s, wp_ok, List.getElem?_cons_zero, List.getElem?_cons_succ, List.set_cons_zero, List.set_cons_succ, List.length_cons, List.length_nil, List.map_cons, List.map_nil, List.cons_append, List.nil_append, List.replicate_succ, List.replicate_zero, Bi.f, allD, Option.map_some, wb_add, wb_sub, wb_mul, wb_mod, wb_fdiv, tru_b, tru_i, cb_le, cb_lt, cb_ge, cb_gt, cb_eq, cb_ne, wc_of, brQ_b, if_true, if_false, Bool.false_eq_true, ft_l, ft_t, fl_l, fl_t, fi_i, ty_t, ty_l, ty_i, ty_b, w_truncF, ix_t0, ix_t1, ix_t2, ix_t3, isi_tt, isi_lt, isi_it, isi_ii, isi_bi, isi_bb, isi_ib, w_dct, wv_nil, wv_cons, w_app, w_rem, mQ_r, Nat.reduceAdd, Nat.zero_add, Nat.reduceMul, Nat.reduceSub, Int.reduceAdd, Int.reduceSub, Int.reduceMul, Int.reduceLT, Int.reduceLE, Int.reduceEq, Int.reduceBEq, Int.reduceNeg, Int.reduceToNat, Int.cast_ofNat_Int, decide_true, decide_false, Bool.not_true, Bool.not_false, beq_self_eq_true, Bool.true_and, Bool.and_true, true_and, and_true, gateD]
    show wp (pIx _ (.d (.int (num bs))) S) _
    rw [ix_t (d := .int (worth vals bs)) (atI_nat h0 (by rw [List.getElem?_map, h]; rfl))]
    ((repeat' apply And.intro) <;> first | trivial | rfl | assumption | skip)
theorem law_put (k : Nat) (S : Sto) (vals : List Int) (rows : List (List Int)) (p : Nat) (hp : p ≤ 1000) (h0 : rows ≠ []) (hl : ∀ r ∈ rows, r.length = p) (hb : ∀ r ∈ rows, Bits r) (hv : vals.length = 2 ^ rows.length) :
    callN ds (k + 2) 19 [.d (gateD rows.length vals), .d (rowsD rows)] S = .ok (.d (rowD (putR vals p rows))) S := by
  refine eq_of_wp ?_
  rw [c_19]
  obtain ⟨r0, rest, hr⟩ : ∃ r0 rest, rows = r0 :: rest := by cases rows with
    | nil => exact absurd rfl h0
    | cons a b => exact ⟨a, b, rfl⟩
  have hix : ∀ Q : Xv → Sto → Prop, wp (pIx (.d (rowsD rows)) (.d (.int 0)) S) Q = Q (.d (rowD r0)) S := fun Q => by
    rw [hr]; exact ix_t0
  have h0l : r0.length = p := hl r0 (by rw [hr]; exact List.mem_cons_self ..)
  simp only [d_19, retQ_rt, retQ_nx, w_var, w_cst, w_gl, w_bin, w_neg, w_cmp, w_ix, w_call, w_bi, w_nil, w_cons, ws_nil, ws_cons, ws_pass, ws_doc, ws_ret, ws_retN, ws_expr, ws_set, ws_if, ws_for, wi_seq, ws_brk, ws_cont, w_not, w_isN, w_ntN, wq_and, wq_or, w_ife, w_chn, w_tup, w_lst, w_lstR, w_sl, wo_no, wo_yes, w_isi, w_lc, w_lcR, w_lc2, w_gen, w_frz, wi_rng1, wi_rng2, wi_zip, wi_zipS, wi_enm, ws_tp, ws_par, ws_setI, nxQ_nx, nxQ_rt, nxQ_bk, nxQ_ct, brQ_t, brQ_f, alQ_s, wp_ok, List.getElem?_cons_zero, List.getElem?_cons_succ, List.set_cons_zero, List.set_cons_succ, List.length_cons, List.length_nil, List.map_cons, List.map_nil, List.cons_append, List.nil_append, List.replicate_succ, List.replicate_zero, Bi.f, allD, Option.map_some, wb_add, wb_sub, wb_mul, wb_mod, wb_fdiv, tru_b, tru_i, cb_le, cb_lt, cb_ge, cb_gt, cb_eq, cb_ne, wc_of, brQ_b, if_true, if_false, Bool.false_eq_true, ft_l, ft_t, fl_l, fl_t, fi_i, ty_t, ty_l, ty_i, ty_b, w_truncF, ix_t0, ix_t1, ix_t2, ix_t3, isi_tt, isi_lt, isi_it, isi_ii, isi_bi, isi_bb, isi_ib, w_dct, wv_nil, wv_cons, w_app, w_rem, mQ_r, Nat.reduceAdd, Nat.zero_add, Nat.reduceMul, Nat.reduceSub, Int.reduceAdd, Int.reduceSub, Int.reduceMul, Int.reduceLT, Int.reduceLE, Int.reduceEq, Int.reduceBEq, Int.reduceNeg, Int.reduceToNat, Int.cast_ofNat_Int, decide_true, decide_false, Bool.not_true, Bool.not_false, beq_self_eq_true, Bool.true_and, Bool.and_true, true_and, and_true, hix]
  simp only [rowD, w_var, w_cst, w_gl, w_bin, w_neg, w_cmp, w_ix, w_call, w_bi, w_nil, w_cons, ws_nil, ws_cons, ws_pass, ws_doc, ws_ret, ws_retN, ws_expr, ws_set, ws_if, ws_for, wi_seq, ws_brk, ws_cont, w_not, w_isN, w_ntN, wq_and, wq_or, w_ife, w_chn, w_tup, w_lst, w_lstR, w_sl, wo_no, wo_yes, w_isi, w_lc, w_lcR, w_lc2, w_gen, w_frz, wi_rng1, wi_rng2, wi_zip, wi_zipS, wi_enm, ws_tp, ws_par, ws_setI, nxQ_nx, nxQ_rt, nxQ_bk, nxQ_ct, brQ_t, brQ_f, alQ_s, wp_ok, List.getElem?_cons_zero, List.getElem?_cons_succ, List.set_cons_zero, List.set_cons_succ, List.length_cons, List.length_nil, List.map_cons, List.map_nil, List.cons_append, List.nil_append, List.replicate_succ, List.replicate_zero, Bi.f, allD, Option.map_some, wb_add, wb_sub, wb_mul, wb_mod, wb_fdiv, tru_b, tru_i, cb_le, cb_lt, cb_ge, cb_gt, cb_eq, cb_ne, wc_of, brQ_b, if_true, if_false, Bool.false_eq_true, ft_l, ft_t, fl_l, fl_t, fi_i, ty_t, ty_l, ty_i, ty_b, w_truncF, ix_t0, ix_t1, ix_t2, ix_t3, isi_tt, isi_lt, isi_it, isi_ii, isi_bi, isi_bb, isi_ib, w_dct, wv_nil, wv_cons, w_app, w_rem, mQ_r, Nat.reduceAdd, Nat.zero_add, Nat.reduceMul, Nat.reduceSub, Int.reduceAdd, Int.reduceSub, Int.reduceMul, Int.reduceLT, Int.reduceLE, Int.reduceEq, Int.reduceBEq, Int.reduceNeg, Int.reduceToNat, Int.cast_ofNat_Int, decide_true, decide_false, Bool.not_true, Bool.not_false, beq_self_eq_true, Bool.true_and, Bool.and_true, true_and, and_true, List.length_map, h0l]
  rw [rg1 (by omega)]
  refine lc_map (fun (i : Nat) => .d (.int i)) (fun i => .int (worth vals (rows.map fun r => r.getD i 0))) (List.range p) (fun i hi => ⟨_, rfl, ?_⟩) ?_
  · have hip : i < p := List.mem_range.mp hi
    simp only [wipeR, w_var, w_cst, w_gl, w_bin, w_neg, w_cmp, w_ix, w_call, w_bi, w_nil, w_cons, ws_nil, ws_cons, ws_pass, ws_doc, ws_ret, ws_retN, ws_expr, ws_set, ws_if, ws_for, wi_seq, ws_brk, ws_cont, w_not, w_isN, w_ntN, wq_and, wq_or, w_ife, w_chn, w_tup, w_lst, w_lstR, w_sl, wo_no, wo_yes, w_isi, w_lc, w_lcR, w_lc2, w_gen, w_frz, wi_rng1, wi_rng2, wi_zip, wi_zipS, wi_enm, ws_tp, ws_par, ws_setI, nxQ_nx, nxQ_rt, nxQ_bk, nxQ_ct, brQ_t, brQ_f, alQ_s, wp_ok, List.getElem?_cons_zero, List.getElem?_cons_succ, List.set_cons_zero, List.set_cons_succ, List.length_cons, List.length_nil, List.map_cons, List.map_nil, List.cons_append, List.nil_append, List.replicate_succ, List.replicate_zero, Bi.f, allD, Option.map_some, wb_add, wb_sub, wb_mul, wb_mod, wb_fdiv, tru_b, tru_i, cb_le, cb_lt, cb_ge, cb_gt, cb_eq, cb_ne, wc_of, brQ_b, if_true, if_false, Bool.false_eq_true, ft_l, ft_t, fl_l, fl_t, fi_i, ty_t, ty_l, ty_i, ty_b, w_truncF, ix_t0, ix_t1, ix_t2, ix_t3, isi_tt, isi_lt, isi_it, isi_ii, isi_bi, isi_bb, isi_ib, w_dct, wv_nil, wv_cons, w_app, w_rem, mQ_r, Nat.reduceAdd, Nat.zero_add, Nat.reduceMul, Nat.reduceSub, Int.reduceAdd, Int.reduceSub, Int.reduceMul, Int.reduceLT, Int.reduceLE, Int.reduceEq, Int.reduceBEq, Int.reduceNeg, Int.reduceToNat, Int.cast_ofNat_Int, decide_true, decide_false, Bool.not_true, Bool.not_false, beq_self_eq_true, Bool.true_and, Bool.and_true, true_and, and_true, rowsD, seqIt, List.map_map]
    refine lc_map (Xv.d ∘ rowD) (fun r => .int (r.getD i 0)) rows (fun r hr => ⟨_, rfl, ?_⟩) ?_
    · have hil : i < r.length := by rw [hl r hr]; exact hip
      simp only [Function.comp_def, wipeR, w_var, w_cst, w_gl, w_bin, w_neg, w_cmp, w_ix, w_call, w_bi, w_nil, w_cons, ws_nil, ws_cons, ws_pass, ws_doc, ws_ret, ws_retN, ws_expr, ws_set, ws_if, ws_for, wi_seq, ws_brk, ws_cont, w_not, w_isN, w_ntN, wq_and, wq_or, w_ife, w_chn, w_tup, w_lst, w_lstR, w_sl, wo_no, wo_yes, w_isi, w_lc, w_lcR, w_lc2, w_gen, w_frz, wi_rng1, wi_rng2, wi_zip, wi_zipS, wi_enm, ws_tp, ws_par, ws_setI, nxQ_nx, nxQ_rt, nxQ_bk, nxQ_ct, brQ_t, brQ_f, alQ_s, wp_ok, List.getElem?_cons_zero, List.getElem?_cons_succ, List.set_cons_zero, List.set_cons_succ, List.length_cons, List.length_nil, List.map_cons, List.map_nil, List.cons_append, List.nil_append, List.replicate_succ, List.replicate_zero, Bi.f, allD, Option.map_some, wb_add, wb_sub, wb_mul, wb_mod, wb_fdiv, tru_b, tru_i, cb_le, cb_lt, cb_ge, cb_gt, cb_eq, cb_ne, wc_of, brQ_b, if_true, if_false, Bool.false_eq_true, ft_l, ft_t, fl_l, fl_t, fi_i, ty_t, ty_l, ty_i, ty_b, w_truncF, ix_t0, ix_t1, ix_t2, ix_t3, isi_tt, isi_lt, isi_it, isi_ii, isi_bi, isi_bb, isi_ib, w_dct, wv_nil, wv_cons, w_app, w_rem, mQ_r, Nat.reduceAdd, Nat.zero_add, Nat.reduceMul, Nat.reduceSub, Int.reduceAdd, Int.reduceSub, Int.reduceMul, Int.reduceLT, Int.reduceLE, Int.reduceEq, Int.reduceBEq, Int.reduceNeg, Int.reduceToNat, Int.cast_ofNat_Int, decide_true, decide_false, Bool.not_true, Bool.not_false, beq_self_eq_true, Bool.true_and, Bool.and_true, true_and, and_true, rowD]
      rw [ix_t (d := .int (r.getD i 0)) (atI_nat (by omega) (by rw [List.getElem?_map, List.getD_eq_getElem?_getD]; simp [List.getElem?_eq_getElem hil]))]
      ((repeat' apply And.intro) <;> first | trivial | rfl | assumption | skip)
    · have hw := law_worth k S rows.length vals (rows.map fun r => r.getD i 0) (fun b hb' => by
        obtain ⟨r, hr, rfl⟩ := List.mem_map.mp hb'
        have hil : i < r.length := by rw [hl r hr]; exact hip
        rw [List.getD_eq_getElem?_getD, List.getElem?_eq_getElem hil]
        exact hb r hr _ (List.getElem_mem hil)) (by rw [List.length_map]; exact hv)
      rw [List.map_map] at hw
      simp only [Function.comp_def] at hw
      simp only [w_var, w_cst, w_gl, w_bin, w_neg, w_cmp, w_ix, w_call, w_bi, w_nil, w_cons, ws_nil, ws_cons, ws_pass, ws_doc, ws_ret, ws_retN, ws_expr, ws_set, ws_if, ws_for, wi_seq, ws_brk, ws_cont, w_not, w_isN, w_ntN, wq_and, wq_or, w_ife, w_chn, w_tup, w_lst, w_lstR, w_sl, wo_no, wo_yes, w_isi, w_lc, w_lcR, w_lc2, w_gen, w_frz, wi_rng1, wi_rng2, wi_zip, wi_zipS, wi_enm, ws_tp, ws_par, ws_setI, nxQ_nx, nxQ_rt, nxQ_bk, nxQ_ct, brQ_t, brQ_f, alQ_s, wp_ok, List.getElem?_cons_zero, List.getElem?_cons_succ, List.set_cons_zero, List.set_cons_succ, List.length_cons, List.length_nil, List.map_cons, List.map_nil, List.cons_append, List.nil_append, List.replicate_succ, List.replicate_zero, Bi.f, allD, Option.map_some, wb_add, wb_sub, wb_mul, wb_mod, wb_fdiv, tru_b, tru_i, cb_le, cb_lt, cb_ge, cb_gt, cb_eq, cb_ne, wc_of, brQ_b, if_true, if_false, Bool.false_eq_true, ft_l, ft_t, fl_l, fl_t, fi_i, ty_t, ty_l, ty_i, ty_b, w_truncF, ix_t0, ix_t1, ix_t2, ix_t3, isi_tt, isi_lt, isi_it, isi_ii, isi_bi, isi_bb, isi_ib, w_dct, wv_nil, wv_cons, w_app, w_rem, mQ_r, Nat.reduceAdd, Nat.zero_add, Nat.reduceMul, Nat.reduceSub, Int.reduceAdd, Int.reduceSub, Int.reduceMul, Int.reduceLT, Int.reduceLE, Int.reduceEq, Int.reduceBEq, Int.reduceNeg, Int.reduceToNat, Int.cast_ofNat_Int, decide_true, decide_false, Bool.not_true, Bool.not_false, beq_self_eq_true, Bool.true_and, Bool.and_true, true_and, and_true, hw]
  · simp only [w_var, w_cst, w_gl, w_bin, w_neg, w_cmp, w_ix, w_call, w_bi, w_nil, w_cons, ws_nil, ws_cons, ws_pass, ws_doc, ws_ret, ws_retN, ws_expr, ws_set, ws_if, ws_for, wi_seq, ws_brk, ws_cont, w_not, w_isN, w_ntN, wq_and, wq_or, w_ife, w_chn, w_tup, w_lst, w_lstR, w_sl, wo_no, wo_yes, w_isi, w_lc, w_lcR, w_lc2, w_gen, w_frz, wi_rng1, wi_rng2, wi_zip, wi_zipS, wi_enm, ws_tp, ws_par, ws_setI, nxQ_nx, nxQ_rt, nxQ_bk, nxQ_ct, brQ_t, brQ_f, alQ_s, wp_ok, List.getElem?_cons_zero, List.getElem?_cons_succ, List.set_cons_zero, List.set_cons_succ, List.length_cons, List.length_nil, List.map_cons, List.map_nil, List.cons_append, List.nil_append, List.replicate_succ, List.replicate_zero, Bi.f, allD, Option.map_some, wb_add, wb_sub, wb_mul, wb_mod, wb_fdiv, tru_b, tru_i, cb_le, cb_lt, cb_ge, cb_gt, cb_eq, cb_ne, wc_of, brQ_b, if_true, if_false, Bool.false_eq_true, ft_l, ft_t, fl_l, fl_t, fi_i, ty_t, ty_l, ty_i, ty_b, w_truncF, ix_t0, ix_t1, ix_t2, ix_t3, isi_tt, isi_lt, isi_it, isi_ii, isi_bi, isi_bb, isi_ib, w_dct, wv_nil, wv_cons, w_app, w_rem, mQ_r, Nat.reduceAdd, Nat.zero_add, Nat.reduceMul, Nat.reduceSub, Int.reduceAdd, Int.reduceSub, Int.reduceMul, Int.reduceLT, Int.reduceLE, Int.reduceEq, Int.reduceBEq, Int.reduceNeg, Int.reduceToNat, Int.cast_ofNat_Int, decide_true, decide_false, Bool.not_true, Bool.not_false, beq_self_eq_true, Bool.true_and, Bool.and_true, true_and, and_true]
    unfold putR cols
    rw [List.map_map, List.map_map]
    rfl
theorem law_choices (k : Nat) (S : Sto) (rows : List (List Int)) (n : Nat) (hr : rows.length ≤ 16) (hn : n ≤ 4) (hs : rows.length ^ n ≤ 5000) :
    callN ds (k + 1) 18 [.d (rowsD rows), .d (.int n)] S = .ok (.d (.list ((choices rows n).map rowsD))) S := by
  refine eq_of_wp ?_
  rw [c_18]
  simp only [d_18, retQ_rt, retQ_nx, w_var, w_cst, w_gl, w_bin, w_neg, w_cmp, w_ix, w_call, w_bi, w_nil, w_cons, ws_nil, ws_cons, ws_pass, ws_doc, ws_ret, ws_retN, ws_expr, ws_set, ws_if, ws_for, wi_seq, ws_brk, ws_cont, w_not, w_isN, w_ntN, wq_and, wq_or, w_ife, w_chn, w_tup, w_lst, w_lstR, w_sl, wo_no, wo_yes, w_isi, w_lc, w_lcR, w_lc2, w_gen, w_frz, wi_rng1, wi_rng2, wi_zip, wi_zipS, wi_enm, ws_tp, ws_par, ws_setI, nxQ_nx, nxQ_rt, nxQ_bk, nxQ_ct, brQ_t, brQ_f, alQ_s, wp_ok, List.getElem?_cons_zero, List.getElem?_cons_succ, List.set_cons_zero, List.set_cons_succ, List.length_cons, List.length_nil, List.map_cons, List.map_nil, List.cons_append, List.nil_append, List.replicate_succ, List.replicate_zero, Bi.f, allD, Option.map_some, wb_add, wb_sub, wb_mul, wb_mod, wb_fdiv, tru_b, tru_i, cb_le, cb_lt, cb_ge, cb_gt, cb_eq, cb_ne, wc_of, brQ_b, if_true, if_false, Bool.false_eq_true, ft_l, ft_t, fl_l, fl_t, fi_i, ty_t, ty_l, ty_i, ty_b, w_truncF, ix_t0, ix_t1, ix_t2, ix_t3, isi_tt, isi_lt, isi_it, isi_ii, isi_bi, isi_bb, isi_ib, w_dct, wv_nil, wv_cons, w_app, w_rem, mQ_r, Nat.reduceAdd, Nat.zero_add, Nat.reduceMul, Nat.reduceSub, Int.reduceAdd, Int.reduceSub, Int.reduceMul, Int.reduceLT, Int.reduceLE, Int.reduceEq, Int.reduceBEq, Int.reduceNeg, Int.reduceToNat, Int.cast_ofNat_Int, decide_true, decide_false, Bool.not_true, Bool.not_false, beq_self_eq_true, Bool.true_and, Bool.and_true, true_and, and_true, rowsD]
  rw [rg1 (by omega)]
  refine for_range (fun (i : Nat) ρ => ∃ a b c d, ρ = [some (.d (.tuple (rows.map rowD))), some (.d (.int n)), some (.d (.list ((choices rows i).map rowsD))), a, b, c, d]) n ⟨none, none, none, none, rfl⟩ (fun i ρ hi h => ?_) fun ρ' h => ?_
  · obtain ⟨a, b, c, d, rfl⟩ := h
    have hsz : (choices rows i).length * rows.length ≤ 5000 := by
      rw [choices_len, ← Nat.pow_succ]
      rcases Nat.eq_zero_or_pos rows.length with h0 | h0
      · rw [h0, Nat.zero_pow (by omega)]; omega
      · exact Nat.le_trans (Nat.pow_le_pow_right h0 (by omega)) hs
    refine ⟨_, rfl, ?_⟩
    simp only [w_var, w_cst, w_gl, w_bin, w_neg, w_cmp, w_ix, w_call, w_bi, w_nil, w_cons, ws_nil, ws_cons, ws_pass, ws_doc, ws_ret, ws_retN, ws_expr, ws_set, ws_if, ws_for, wi_seq, ws_brk, ws_cont, w_not, w_isN, w_ntN, wq_and, wq_or, w_ife, w_chn, w_tup, w_lst, w_lstR, w_sl, wo_no, wo_yes, w_isi, w_lc, w_lcR, w_lc2, w_gen, w_frz, wi_rng1, wi_rng2, wi_zip, wi_zipS, wi_enm, ws_tp, ws_par, ws_setI, nxQ_nx, nxQ_rt, nxQ_bk, nxQ_ct, brQ_t, brQ_f, alQ_s, wp_ok, List.getElem?_cons_zero, List.getElem?_cons_succ, List.set_cons_zero, List.set_cons_succ, List.length_cons, List.length_nil, List.map_cons, List.map_nil, List.cons_append, List.nil_append, List.replicate_succ, List.replicate_zero, Bi.f, allD, Option.map_some, wb_add, wb_sub, wb_mul, wb_mod, wb_fdiv, tru_b, tru_i, cb_le, cb_lt, cb_ge, cb_gt, cb_eq, cb_ne, wc_of, brQ_b, if_true, if_false, Bool.false_eq_true, ft_l, ft_t, fl_l, fl_t, fi_i, ty_t, ty_l, ty_i, ty_b, w_truncF, ix_t0, ix_t1, ix_t2, ix_t3, isi_tt, isi_lt, isi_it, isi_ii, isi_bi, isi_bb, isi_ib, w_dct, wv_nil, wv_cons, w_app, w_rem, mQ_r, Nat.reduceAdd, Nat.zero_add, Nat.reduceMul, Nat.reduceSub, Int.reduceAdd, Int.reduceSub, Int.reduceMul, Int.reduceLT, Int.reduceLE, Int.reduceEq, Int.reduceBEq, Int.reduceNeg, Int.reduceToNat, Int.cast_ofNat_Int, decide_true, decide_false, Bool.not_true, Bool.not_false, beq_self_eq_true, Bool.true_and, Bool.and_true, true_and, and_true, seqIt, List.map_map]
    refine for_pre (Xv.d ∘ rowsD) (fun pre ρ => ∃ c d, ρ = [some (.d (.tuple (rows.map rowD))), some (.d (.int n)), some (.d (.list ((choices rows i).map rowsD))), some (.d (.int i)), some (.d (.list ((pre.flatMap fun c => rows.map fun r => c ++ [r]).map rowsD))), c, d]) (choices rows i) ⟨c, d, rfl⟩ (fun pre x post ρ e h => ?_) fun ρ' h => ?_
    · obtain ⟨c, d, rfl⟩ := h
      have hx : x ∈ choices rows i := by rw [e]; simp
      obtain ⟨hxl, _⟩ := choices_mem.mp hx
      refine ⟨_, rfl, ?_⟩
      simp only [Function.comp_def, w_var, w_cst, w_gl, w_bin, w_neg, w_cmp, w_ix, w_call, w_bi, w_nil, w_cons, ws_nil, ws_cons, ws_pass, ws_doc, ws_ret, ws_retN, ws_expr, ws_set, ws_if, ws_for, wi_seq, ws_brk, ws_cont, w_not, w_isN, w_ntN, wq_and, wq_or, w_ife, w_chn, w_tup, w_lst, w_lstR, w_sl, wo_no, wo_yes, w_isi, w_lc, w_lcR, w_lc2, w_gen, w_frz, wi_rng1, wi_rng2, wi_zip, wi_zipS, wi_enm, ws_tp, ws_par, ws_setI, nxQ_nx, nxQ_rt, nxQ_bk, nxQ_ct, brQ_t, brQ_f, alQ_s, wp_ok, List.getElem?_cons_zero, List.getElem?_cons_succ, List.set_cons_zero, List.set_cons_succ, List.length_cons, List.length_nil, List.map_cons, List.map_nil, List.cons_append, List.nil_append, List.replicate_succ, List.replicate_zero, Bi.f, allD, Option.map_some, wb_add, wb_sub, wb_mul, wb_mod, wb_fdiv, tru_b, tru_i, cb_le, cb_lt, cb_ge, cb_gt, cb_eq, cb_ne, wc_of, brQ_b, if_true, if_false, Bool.false_eq_true, ft_l, ft_t, fl_l, fl_t, fi_i, ty_t, ty_l, ty_i, ty_b, w_truncF, ix_t0, ix_t1, ix_t2, ix_t3, isi_tt, isi_lt, isi_it, isi_ii, isi_bi, isi_bb, isi_ib, w_dct, wv_nil, wv_cons, w_app, w_rem, mQ_r, Nat.reduceAdd, Nat.zero_add, Nat.reduceMul, Nat.reduceSub, Int.reduceAdd, Int.reduceSub, Int.reduceMul, Int.reduceLT, Int.reduceLE, Int.reduceEq, Int.reduceBEq, Int.reduceNeg, Int.reduceToNat, Int.cast_ofNat_Int, decide_true, decide_false, Bool.not_true, Bool.not_false, beq_self_eq_true, Bool.true_and, Bool.and_true, true_and, and_true, seqIt, List.map_map]
      refine lc_map (Xv.d ∘ rowD) (fun r => rowsD (x ++ [r])) rows (fun r hr => ⟨_, rfl, ?_⟩) ?_
      · simp only [Function.comp_def, wipeR, w_var, w_cst, w_gl, w_bin, w_neg, w_cmp, w_ix, w_call, w_bi, w_nil, w_cons, ws_nil, ws_cons, ws_pass, ws_doc, ws_ret, ws_retN, ws_expr, ws_set, ws_if, ws_for, wi_seq, ws_brk, ws_cont, w_not, w_isN, w_ntN, wq_and, wq_or, w_ife, w_chn, w_tup, w_lst, w_lstR, w_sl, wo_no, wo_yes, w_isi, w_lc, w_lcR, w_lc2, w_gen, w_frz, wi_rng1, wi_rng2, wi_zip, wi_zipS, wi_enm, ws_tp, ws_par, ws_setI, nxQ_nx, nxQ_rt, nxQ_bk, nxQ_ct, brQ_t, brQ_f, alQ_s, wp_ok, List.getElem?_cons_zero, List.getElem?_cons_succ, List.set_cons_zero, List.set_cons_succ, List.length_cons, List.length_nil, List.map_cons, List.map_nil, List.cons_append, List.nil_append, List.replicate_succ, List.replicate_zero, Bi.f, allD, Option.map_some, wb_add, wb_sub, wb_mul, wb_mod, wb_fdiv, tru_b, tru_i, cb_le, cb_lt, cb_ge, cb_gt, cb_eq, cb_ne, wc_of, brQ_b, if_true, if_false, Bool.false_eq_true, ft_l, ft_t, fl_l, fl_t, fi_i, ty_t, ty_l, ty_i, ty_b, w_truncF, ix_t0, ix_t1, ix_t2, ix_t3, isi_tt, isi_lt, isi_it, isi_ii, isi_bi, isi_bb, isi_ib, w_dct, wv_nil, wv_cons, w_app, w_rem, mQ_r, Nat.reduceAdd, Nat.zero_add, Nat.reduceMul, Nat.reduceSub, Int.reduceAdd, Int.reduceSub, Int.reduceMul, Int.reduceLT, Int.reduceLE, Int.reduceEq, Int.reduceBEq, Int.reduceNeg, Int.reduceToNat, Int.cast_ofNat_Int, decide_true, decide_false, Bool.not_true, Bool.not_false, beq_self_eq_true, Bool.true_and, Bool.and_true, true_and, and_true]
        rw [show rowsD x = .tuple (x.map rowD) from rfl, wb_addT (by rw [List.length_map, hxl]; simp; omega)]
        simp only [rowsD, List.map_append, w_var, w_cst, w_gl, w_bin, w_neg, w_cmp, w_ix, w_call, w_bi, w_nil, w_cons, ws_nil, ws_cons, ws_pass, ws_doc, ws_ret, ws_retN, ws_expr, ws_set, ws_if, ws_for, wi_seq, ws_brk, ws_cont, w_not, w_isN, w_ntN, wq_and, wq_or, w_ife, w_chn, w_tup, w_lst, w_lstR, w_sl, wo_no, wo_yes, w_isi, w_lc, w_lcR, w_lc2, w_gen, w_frz, wi_rng1, wi_rng2, wi_zip, wi_zipS, wi_enm, ws_tp, ws_par, ws_setI, nxQ_nx, nxQ_rt, nxQ_bk, nxQ_ct, brQ_t, brQ_f, alQ_s, wp_ok, List.getElem?_cons_zero, List.getElem?_cons_succ, List.set_cons_zero, List.set_cons_succ, List.length_cons, List.length_nil, List.map_cons, List.map_nil, List.cons_append, List.nil_append, List.replicate_succ, List.replicate_zero, Bi.f, allD, Option.map_some, wb_add, wb_sub, wb_mul, wb_mod, wb_fdiv, tru_b, tru_i, cb_le, cb_lt, cb_ge, cb_gt, cb_eq, cb_ne, wc_of, brQ_b, if_true, if_false, Bool.false_eq_true, ft_l, ft_t, fl_l, fl_t, fi_i, ty_t, ty_l, ty_i, ty_b, w_truncF, ix_t0, ix_t1, ix_t2, ix_t3, isi_tt, isi_lt, isi_it, isi_ii, isi_bi, isi_bb, isi_ib, w_dct, wv_nil, wv_cons, w_app, w_rem, mQ_r, Nat.reduceAdd, Nat.zero_add, Nat.reduceMul, Nat.reduceSub, Int.reduceAdd, Int.reduceSub, Int.reduceMul, Int.reduceLT, Int.reduceLE, Int.reduceEq, Int.reduceBEq, Int.reduceNeg, Int.reduceToNat, Int.cast_ofNat_Int, decide_true, decide_false, Bool.not_true, Bool.not_false, beq_self_eq_true, Bool.true_and, Bool.and_true, true_and, and_true]
      · have hl2 : ∀ l : List (List (List Int)), (l.flatMap fun c => rows.map fun r => c ++ [r]).length = l.length * rows.length := fun l => by
          induction l with
          | nil => simp
          | cons y l ih => rw [List.flatMap_cons, List.length_append, ih, List.length_map, List.length_cons, Nat.succ_mul, Nat.add_comm]
        have hpl : pre.length * rows.length + rows.length ≤ 5000 := by
          have h1 := congrArg List.length e
          rw [List.length_append, List.length_cons] at h1
          have h2 : (pre.length + 1) * rows.length ≤ (choices rows i).length * rows.length := Nat.mul_le_mul_right _ (by omega)
          rw [Nat.succ_mul] at h2
          omega
        rw [wb_addL (by rw [List.length_map, List.length_map, hl2]; omega)]
        simp only [w_var, w_cst, w_gl, w_bin, w_neg, w_cmp, w_ix, w_call, w_bi, w_nil, w_cons, ws_nil, ws_cons, ws_pass, ws_doc, ws_ret, ws_retN, ws_expr, ws_set, ws_if, ws_for, wi_seq, ws_brk, ws_cont, w_not, w_isN, w_ntN, wq_and, wq_or, w_ife, w_chn, w_tup, w_lst, w_lstR, w_sl, wo_no, wo_yes, w_isi, w_lc, w_lcR, w_lc2, w_gen, w_frz, wi_rng1, wi_rng2, wi_zip, wi_zipS, wi_enm, ws_tp, ws_par, ws_setI, nxQ_nx, nxQ_rt, nxQ_bk, nxQ_ct, brQ_t, brQ_f, alQ_s, wp_ok, List.getElem?_cons_zero, List.getElem?_cons_succ, List.set_cons_zero, List.set_cons_succ, List.length_cons, List.length_nil, List.map_cons, List.map_nil, List.cons_append, List.nil_append, List.replicate_succ, List.replicate_zero, Bi.f, allD, Option.map_some, wb_add, wb_sub, wb_mul, wb_mod, wb_fdiv, tru_b, tru_i, cb_le, cb_lt, cb_ge, cb_gt, cb_eq, cb_ne, wc_of, brQ_b, if_true, if_false, Bool.false_eq_true, ft_l, ft_t, fl_l, fl_t, fi_i, ty_t, ty_l, ty_i, ty_b, w_truncF, ix_t0, ix_t1, ix_t2, ix_t3, isi_tt, isi_lt, isi_it, isi_ii, isi_bi, isi_bb, isi_ib, w_dct, wv_nil, wv_cons, w_app, w_rem, mQ_r, Nat.reduceAdd, Nat.zero_add, Nat.reduceMul, Nat.reduceSub, Int.reduceAdd, Int.reduceSub, Int.reduceMul, Int.reduceLT, Int.reduceLE, Int.reduceEq, Int.reduceBEq, Int.reduceNeg, Int.reduceToNat, Int.cast_ofNat_Int, decide_true, decide_false, Bool.not_true, Bool.not_false, beq_self_eq_true, Bool.true_and, Bool.and_true, true_and, and_true]
        refine ⟨_, .inl rfl, some (.d (rowsD x)), d, ?_⟩
        rw [List.flatMap_append, List.map_append, List.flatMap_cons, List.flatMap_nil, List.append_nil, List.map_map]
        rfl
    · obtain ⟨c, d, rfl⟩ := h
      simp only [w_var, w_cst, w_gl, w_bin, w_neg, w_cmp, w_ix, w_call, w_bi, w_nil, w_cons, ws_nil, ws_cons, ws_pass, ws_doc, ws_ret, ws_retN, ws_expr, ws_set, ws_if, ws_for, wi_seq, ws_brk, ws_cont, w_not, w_isN, w_ntN, wq_and, wq_or, w_ife, w_chn, w_tup, w_lst, w_lstR, w_sl, wo_no, wo_yes, w_isi, w_lc, w_lcR, w_lc2, w_gen, w_frz, wi_rng1, wi_rng2, wi_zip, wi_zipS, wi_enm, ws_tp, ws_par, ws_setI, nxQ_nx, nxQ_rt, nxQ_bk, nxQ_ct, brQ_t, brQ_f, alQ_s, wp_ok, List.getElem?_cons_zero, List.getElem?_cons_succ, List.set_cons_zero, List.set_cons_succ, List.length_cons, List.length_nil, List.map_cons, List.map_nil, List.cons_append, List.nil_append, List.replicate_succ, List.replicate_zero, Bi.f, allD, Option.map_some, wb_add, wb_sub, wb_mul, wb_mod, wb_fdiv, tru_b, tru_i, cb_le, cb_lt, cb_ge, cb_gt, cb_eq, cb_ne, wc_of, brQ_b, if_true, if_false, Bool.false_eq_true, ft_l, ft_t, fl_l, fl_t, fi_i, ty_t, ty_l, ty_i, ty_b, w_truncF, ix_t0, ix_t1, ix_t2, ix_t3, isi_tt, isi_lt, isi_it, isi_ii, isi_bi, isi_bb, isi_ib, w_dct, wv_nil, wv_cons, w_app, w_rem, mQ_r, Nat.reduceAdd, Nat.zero_add, Nat.reduceMul, Nat.reduceSub, Int.reduceAdd, Int.reduceSub, Int.reduceMul, Int.reduceLT, Int.reduceLE, Int.reduceEq, Int.reduceBEq, Int.reduceNeg, Int.reduceToNat, Int.cast_ofNat_Int, decide_true, decide_false, Bool.not_true, Bool.not_false, beq_self_eq_true, Bool.true_and, Bool.and_true, true_and, and_true]
      exact ⟨_, .inl rfl, some (.d (.int i)), some (.d (.list ((choices rows (i + 1)).map rowsD))), c, d, rfl⟩
  · obtain ⟨a, b, c, d, rfl⟩ := h
    simp only [w_var, w_cst, w_gl, w_bin, w_neg, w_cmp, w_ix, w_call, w_bi, w_nil, w_cons, ws_nil, ws_cons, ws_pass, ws_doc, ws_ret, ws_retN, ws_expr, ws_set, ws_if, ws_for, wi_seq, ws_brk, ws_cont, w_not, w_isN, w_ntN, wq_and, wq_or, w_ife, w_chn, w_tup, w_lst, w_lstR, w_sl, wo_no, wo_yes, w_isi, w_lc, w_lcR, w_lc2, w_gen, w_frz, wi_rng1, wi_rng2, wi_zip, wi_zipS, wi_enm, ws_tp, ws_par, ws_setI, nxQ_nx, nxQ_rt, nxQ_bk, nxQ_ct, brQ_t, brQ_f, alQ_s, wp_ok, List.getElem?_cons_zero, List.getElem?_cons_succ, List.set_cons_zero, List.set_cons_succ, List.length_cons, List.length_nil, List.map_cons, List.map_nil, List.cons_append, List.nil_append, List.replicate_succ, List.replicate_zero, Bi.f, allD, Option.map_some, wb_add, wb_sub, wb_mul, wb_mod, wb_fdiv, tru_b, tru_i, cb_le, cb_lt, cb_ge, cb_gt, cb_eq, cb_ne, wc_of, brQ_b, if_true, if_false, Bool.false_eq_true, ft_l, ft_t, fl_l, fl_t, fi_i, ty_t, ty_l, ty_i, ty_b, w_truncF, ix_t0, ix_t1, ix_t2, ix_t3, isi_tt, isi_lt, isi_it, isi_ii, isi_bi, isi_bb, isi_ib, w_dct, wv_nil, wv_cons, w_app, w_rem, mQ_r, Nat.reduceAdd, Nat.zero_add, Nat.reduceMul, Nat.reduceSub, Int.reduceAdd, Int.reduceSub, Int.reduceMul, Int.reduceLT, Int.reduceLE, Int.reduceEq, Int.reduceBEq, Int.reduceNeg, Int.reduceToNat, Int.cast_ofNat_Int, decide_true, decide_false, Bool.not_true, Bool.not_false, beq_self_eq_true, Bool.true_and, Bool.and_true, true_and, and_true, rowsD]
theorem law_broken (k : Nat) (S : Sto) (n : Nat) (vals : List Int) (p : Nat) (rows : List (List Int)) (g : GT n vals p rows) :
    callN ds (k + 3) 5 [.d (gateD n vals), .d (tieD p rows)] S = .ok (.d (optRows (brk n vals p rows))) S := by
  refine eq_of_wp ?_
  rw [c_5]
  have hch := law_choices (k + 1) S rows n g.rl g.n4 g.sz
  rw [show rowsD rows = .tuple (rows.map rowD) from rfl] at hch
  simp only [d_5, gateD, tieD, rowsD, retQ_rt, retQ_nx, w_var, w_cst, w_gl, w_bin, w_neg, w_cmp, w_ix, w_call, w_bi, w_nil, w_cons, ws_nil, ws_cons, ws_pass, ws_doc, ws_ret, ws_retN, ws_expr, ws_set, ws_if, ws_for, wi_seq, ws_brk, ws_cont, w_not, w_isN, w_ntN, wq_and, wq_or, w_ife, w_chn, w_tup, w_lst, w_lstR, w_sl, wo_no, wo_yes, w_isi, w_lc, w_lcR, w_lc2, w_gen, w_frz, wi_rng1, wi_rng2, wi_zip, wi_zipS, wi_enm, ws_tp, ws_par, ws_setI, nxQ_nx, nxQ_rt, nxQ_bk, nxQ_ct, brQ_t, brQ_f, alQ_s, wp_ok, List.getElem?_cons_zero, List.getElem?_cons_succ, List.set_cons_zero, List.set_cons_succ, List.length_cons, List.length_nil, List.map_cons, List.map_nil, List.cons_append, List.nil_append, List.replicate_succ, List.replicate_zero, Bi.f, allD, Option.map_some, wb_add, wb_sub, wb_mul, wb_mod, wb_fdiv, tru_b, tru_i, cb_le, cb_lt, cb_ge, cb_gt, cb_eq, cb_ne, wc_of, brQ_b, if_true, if_false, Bool.false_eq_true, ft_l, ft_t, fl_l, fl_t, fi_i, ty_t, ty_l, ty_i, ty_b, w_truncF, ix_t0, ix_t1, ix_t2, ix_t3, isi_tt, isi_lt, isi_it, isi_ii, isi_bi, isi_bb, isi_ib, w_dct, wv_nil, wv_cons, w_app, w_rem, mQ_r, Nat.reduceAdd, Nat.zero_add, Nat.reduceMul, Nat.reduceSub, Int.reduceAdd, Int.reduceSub, Int.reduceMul, Int.reduceLT, Int.reduceLE, Int.reduceEq, Int.reduceBEq, Int.reduceNeg, Int.reduceToNat, Int.cast_ofNat_Int, decide_true, decide_false, Bool.not_true, Bool.not_false, beq_self_eq_true, Bool.true_and, Bool.and_true, true_and, and_true, hch, seqIt, List.map_map]
  refine for_find (fun ρ => ∃ a, ρ = [some (.d (gateD n vals)), some (.d (tieD p rows)), a]) (Xv.d ∘ rowsD) (fun c => !rows.contains (putR vals p c)) (Xv.d ∘ rowsD) (choices rows n) _ ⟨none, rfl⟩ (fun ρ c hc h => ?_) ?_
  · obtain ⟨a, rfl⟩ := h
    refine ⟨_, rfl, ?_⟩
    obtain ⟨c0, cl, c1, c2⟩ := put_at g hc
    have hp := law_put k S vals c p (by have := g.p4; omega) c0 c1 c2 (by rw [g.vl, cl])
    rw [cl] at hp
    simp only [w_var, w_cst, w_gl, w_bin, w_neg, w_cmp, w_ix, w_call, w_bi, w_nil, w_cons, ws_nil, ws_cons, ws_pass, ws_doc, ws_ret, ws_retN, ws_expr, ws_set, ws_if, ws_for, wi_seq, ws_brk, ws_cont, w_not, w_isN, w_ntN, wq_and, wq_or, w_ife, w_chn, w_tup, w_lst, w_lstR, w_sl, wo_no, wo_yes, w_isi, w_lc, w_lcR, w_lc2, w_gen, w_frz, wi_rng1, wi_rng2, wi_zip, wi_zipS, wi_enm, ws_tp, ws_par, ws_setI, nxQ_nx, nxQ_rt, nxQ_bk, nxQ_ct, brQ_t, brQ_f, alQ_s, wp_ok, List.getElem?_cons_zero, List.getElem?_cons_succ, List.set_cons_zero, List.set_cons_succ, List.length_cons, List.length_nil, List.map_cons, List.map_nil, List.cons_append, List.nil_append, List.replicate_succ, List.replicate_zero, Bi.f, allD, Option.map_some, wb_add, wb_sub, wb_mul, wb_mod, wb_fdiv, tru_b, tru_i, cb_le, cb_lt, cb_ge, cb_gt, cb_eq, cb_ne, wc_of, brQ_b, if_true, if_false, Bool.false_eq_true, ft_l, ft_t, fl_l, fl_t, fi_i, ty_t, ty_l, ty_i, ty_b, w_truncF, ix_t0, ix_t1, ix_t2, ix_t3, isi_tt, isi_lt, isi_it, isi_ii, isi_bi, isi_bb, isi_ib, w_dct, wv_nil, wv_cons, w_app, w_rem, mQ_r, Nat.reduceAdd, Nat.zero_add, Nat.reduceMul, Nat.reduceSub, Int.reduceAdd, Int.reduceSub, Int.reduceMul, Int.reduceLT, Int.reduceLE, Int.reduceEq, Int.reduceBEq, Int.reduceNeg, Int.reduceToNat, Int.cast_ofNat_Int, decide_true, decide_false, Bool.not_true, Bool.not_false, beq_self_eq_true, Bool.true_and, Bool.and_true, true_and, and_true, Function.comp_def, hp]
    simp only [tieD, rowsD, w_var, w_cst, w_gl, w_bin, w_neg, w_cmp, w_ix, w_call, w_bi, w_nil, w_cons, ws_nil, ws_cons, ws_pass, ws_doc, ws_ret, ws_retN, ws_expr, ws_set, ws_if, ws_for, wi_seq, ws_brk, ws_cont, w_not, w_isN, w_ntN, wq_and, wq_or, w_ife, w_chn, w_tup, w_lst, w_lstR, w_sl, wo_no, wo_yes, w_isi, w_lc, w_lcR, w_lc2, w_gen, w_frz, wi_rng1, wi_rng2, wi_zip, wi_zipS, wi_enm, ws_tp, ws_par, ws_setI, nxQ_nx, nxQ_rt, nxQ_bk, nxQ_ct, brQ_t, brQ_f, alQ_s, wp_ok, List.getElem?_cons_zero, List.getElem?_cons_succ, List.set_cons_zero, List.set_cons_succ, List.length_cons, List.length_nil, List.map_cons, List.map_nil, List.cons_append, List.nil_append, List.replicate_succ, List.replicate_zero, Bi.f, allD, Option.map_some, wb_add, wb_sub, wb_mul, wb_mod, wb_fdiv, tru_b, tru_i, cb_le, cb_lt, cb_ge, cb_gt, cb_eq, cb_ne, wc_of, brQ_b, if_true, if_false, Bool.false_eq_true, ft_l, ft_t, fl_l, fl_t, fi_i, ty_t, ty_l, ty_i, ty_b, w_truncF, ix_t0, ix_t1, ix_t2, ix_t3, isi_tt, isi_lt, isi_it, isi_ii, isi_bi, isi_bb, isi_ib, w_dct, wv_nil, wv_cons, w_app, w_rem, mQ_r, Nat.reduceAdd, Nat.zero_add, Nat.reduceMul, Nat.reduceSub, Int.reduceAdd, Int.reduceSub, Int.reduceMul, Int.reduceLT, Int.reduceLE, Int.reduceEq, Int.reduceBEq, Int.reduceNeg, Int.reduceToNat, Int.cast_ofNat_Int, decide_true, decide_false, Bool.not_true, Bool.not_false, beq_self_eq_true, Bool.true_and, Bool.and_true, true_and, and_true, cb_nin]
    by_cases h : (!rows.contains (putR vals p c)) = true
    · rw [if_pos h, if_pos h]; ((repeat' apply And.intro) <;> first | trivial | rfl | assumption | skip)
    · rw [if_neg h, if_neg h]; exact ⟨_, .inl rfl, some (.d (rowsD c)), rfl⟩
  · unfold brk
    cases (choices rows n).find? fun c => !rows.contains (putR vals p c) with
    | none =>
      rintro ρ ⟨a, rfl⟩
      simp only [w_var, w_cst, w_gl, w_bin, w_neg, w_cmp, w_ix, w_call, w_bi, w_nil, w_cons, ws_nil, ws_cons, ws_pass, ws_doc, ws_ret, ws_retN, ws_expr, ws_set, ws_if, ws_for, wi_seq, ws_brk, ws_cont, w_not, w_isN, w_ntN, wq_and, wq_or, w_ife, w_chn, w_tup, w_lst, w_lstR, w_sl, wo_no, wo_yes, w_isi, w_lc, w_lcR, w_lc2, w_gen, w_frz, wi_rng1, wi_rng2, wi_zip, wi_zipS, wi_enm, ws_tp, ws_par, ws_setI, nxQ_nx, nxQ_rt, nxQ_bk, nxQ_ct, brQ_t, brQ_f, alQ_s, wp_ok, List.getElem?_cons_zero, List.getElem?_cons_succ, List.set_cons_zero, List.set_cons_succ, List.length_cons, List.length_nil, List.map_cons, List.map_nil, List.cons_append, List.nil_append, List.replicate_succ, List.replicate_zero, Bi.f, allD, Option.map_some, wb_add, wb_sub, wb_mul, wb_mod, wb_fdiv, tru_b, tru_i, cb_le, cb_lt, cb_ge, cb_gt, cb_eq, cb_ne, wc_of, brQ_b, if_true, if_false, Bool.false_eq_true, ft_l, ft_t, fl_l, fl_t, fi_i, ty_t, ty_l, ty_i, ty_b, w_truncF, ix_t0, ix_t1, ix_t2, ix_t3, isi_tt, isi_lt, isi_it, isi_ii, isi_bi, isi_bb, isi_ib, w_dct, wv_nil, wv_cons, w_app, w_rem, mQ_r, Nat.reduceAdd, Nat.zero_add, Nat.reduceMul, Nat.reduceSub, Int.reduceAdd, Int.reduceSub, Int.reduceMul, Int.reduceLT, Int.reduceLE, Int.reduceEq, Int.reduceBEq, Int.reduceNeg, Int.reduceToNat, Int.cast_ofNat_Int, decide_true, decide_false, Bool.not_true, Bool.not_false, beq_self_eq_true, Bool.true_and, Bool.and_true, true_and, and_true]
      ((repeat' apply And.intro) <;> first | trivial | rfl | assumption | skip)
    | some c => simp only [w_var, w_cst, w_gl, w_bin, w_neg, w_cmp, w_ix, w_call, w_bi, w_nil, w_cons, ws_nil, ws_cons, ws_pass, ws_doc, ws_ret, ws_retN, ws_expr, ws_set, ws_if, ws_for, wi_seq, ws_brk, ws_cont, w_not, w_isN, w_ntN, wq_and, wq_or, w_ife, w_chn, w_tup, w_lst, w_lstR, w_sl, wo_no, wo_yes, w_isi, w_lc, w_lcR, w_lc2, w_gen, w_frz, wi_rng1, wi_rng2, wi_zip, wi_zipS, wi_enm, ws_tp, ws_par, ws_setI, nxQ_nx, nxQ_rt, nxQ_bk, nxQ_ct, brQ_t, brQ_f, alQ_s, wp_ok, List.getElem?_cons_zero, List.getElem?_cons_succ, List.set_cons_zero, List.set_cons_succ, List.length_cons, List.length_nil, List.map_cons, List.map_nil, List.cons_append, List.nil_append, List.replicate_succ, List.replicate_zero, Bi.f, allD, Option.map_some, wb_add, wb_sub, wb_mul, wb_mod, wb_fdiv, tru_b, tru_i, cb_le, cb_lt, cb_ge, cb_gt, cb_eq, cb_ne, wc_of, brQ_b, if_true, if_false, Bool.false_eq_true, ft_l, ft_t, fl_l, fl_t, fi_i, ty_t, ty_l, ty_i, ty_b, w_truncF, ix_t0, ix_t1, ix_t2, ix_t3, isi_tt, isi_lt, isi_it, isi_ii, isi_bi, isi_bb, isi_ib, w_dct, wv_nil, wv_cons, w_app, w_rem, mQ_r, Nat.reduceAdd, Nat.zero_add, Nat.reduceMul, Nat.reduceSub, Int.reduceAdd, Int.reduceSub, Int.reduceMul, Int.reduceLT, Int.reduceLE, Int.reduceEq, Int.reduceBEq, Int.reduceNeg, Int.reduceToNat, Int.cast_ofNat_Int, decide_true, decide_false, Bool.not_true, Bool.not_false, beq_self_eq_true, Bool.true_and, Bool.and_true, true_and, and_true]; ((repeat' apply And.intro) <;> first | trivial | rfl | assumption | skip)
/-! ### things in a drawn order -/
/-- what can be taken out of a list by its likes -/
structure Tk (d : D) : Prop where
  pl : d.plain = true
  dp : d.depth ≤ 64
  ln : pln d = true
theorem tk_all {ds : List D} (h : ∀ d ∈ ds, Tk d) : PyData.plainAll ds = true := by
  induction ds with
  | nil => rfl
  | cons d ds ih => rw [PyData.plainAll, (h d (List.mem_cons_self ..)).pl, ih fun x hx => h x (List.mem_cons_of_mem _ hx)]; rfl
theorem plain_row (r : List Int) : (rowD r).plain = true := by
  unfold rowD
  rw [PyData.plain]
  induction r with
  | nil => rfl
  | cons x xs ih => rw [List.map_cons, PyData.plainAll, ih]; rfl
theorem tk_row (r : List Int) : Tk (rowD r) := ⟨plain_row r, by rw [dp_row]; decide, pln_row r⟩
theorem place_at {ds : List D} {d : D} (h : ∀ d ∈ ds, Tk d) (hd : d ∈ ds) : ∃ j, placeD ds d = some j ∧ ds[j]? = some d := by
  unfold placeD
  obtain ⟨i, hi⟩ := List.getElem?_of_mem hd
  have he : PyData.eqv d d = true := (eqv_pln d d (h d hd).ln (h d hd).ln).mpr rfl
  cases e : ds.findIdx? (fun y => PyData.eqv y d) with
  | none =>
    have := List.findIdx?_eq_none_iff.mp e d hd
    rw [he] at this; cases this
  | some j =>
    refine ⟨j, rfl, ?_⟩
    obtain ⟨hj, h1, _⟩ := List.findIdx?_eq_some_iff_getElem.mp e
    have hm := h _ (List.getElem_mem hj)
    rw [List.getElem?_eq_getElem hj, (eqv_pln _ d hm.ln (h d hd).ln).mp h1]
theorem of_ref (k : Nat) (b : Bs) (n : Nat) (T : Sto) (p : Nat) (xs : List D) (hb : b.Ok n) (hn : n ≤ 1000000) (h0 : xs ≠ []) (h1 : xs.length < 1073741824) (hp : T[p]? = some (.lst (xs.map .d))) :
    ∃ v : D × Bs, (v.1 ∈ xs ∧ v.2.Ok (n + 1)) ∧ callN ds (k + 3) 14 [.r 2, .r (3 + p)] (b.sto ++ T) = .ok (.d v.1) (v.2.sto ++ T) := by
  have hp0 : 0 < xs.length := List.length_pos_iff.mpr h0
  obtain ⟨v, ⟨hv0, hv1, hb'⟩, e⟩ := draw_so k b n T xs.length hb hn (by omega) (by omega)
  have hlt : v.1.toNat < xs.length := by omega
  refine ⟨(xs[v.1.toNat], v.2), ⟨List.getElem_mem hlt, hb'⟩, eq_of_wp ?_⟩
  have hl : ∀ Q : Xv → Sto → Prop, wp (fLen [.r (3 + p)] (b.sto ++ T)) Q = Q (.d (.int xs.length)) (b.sto ++ T) := fun Q => by
    unfold fLen lenX
    dsimp only
    rw [get_T, hp]
    simp only [List.length_map]
    rfl
  rw [c_14]
  simp only [d_14, retQ_rt, retQ_nx, w_var, w_cst, w_gl, w_bin, w_neg, w_cmp, w_ix, w_call, w_bi, w_nil, w_cons, ws_nil, ws_cons, ws_pass, ws_doc, ws_ret, ws_retN, ws_expr, ws_set, ws_if, ws_for, wi_seq, ws_brk, ws_cont, w_not, w_isN, w_ntN, wq_and, wq_or, w_ife, w_chn, w_tup, w_lst, w_lstR, w_sl, wo_no, wo_yes, w_isi, w_lc, w_lcR, w_lc2, w_gen, w_frz, wi_rng1, wi_rng2, wi_zip, wi_zipS, wi_enm, ws_tp, ws_par, ws_setI, nxQ_nx, nxQ_rt, nxQ_bk, nxQ_ct, brQ_t, brQ_f, alQ_s, wp_ok, List.getElem?_cons_zero, List.getElem?_cons_succ, List.set_cons_zero, List.set_cons_succ, List.length_cons, List.length_nil, List.map_cons, List.map_nil, List.cons_append, List.nil_append, List.replicate_succ, List.replicate_zero, Bi.f, allD, Option.map_some, wb_add, wb_sub, wb_mul, wb_mod, wb_fdiv, tru_b, tru_i, cb_le, cb_lt, cb_ge, cb_gt, cb_eq, cb_ne, wc_of, brQ_b, if_true, if_false, Bool.false_eq_true, ft_l, ft_t, fl_l, fl_t, fi_i, ty_t, ty_l, ty_i, ty_b, w_truncF, ix_t0, ix_t1, ix_t2, ix_t3, isi_tt, isi_lt, isi_it, isi_ii, isi_bi, isi_bb, isi_ib, w_dct, wv_nil, wv_cons, w_app, w_rem, mQ_r, Nat.reduceAdd, Nat.zero_add, Nat.reduceMul, Nat.reduceSub, Int.reduceAdd, Int.reduceSub, Int.reduceMul, Int.reduceLT, Int.reduceLE, Int.reduceEq, Int.reduceBEq, Int.reduceNeg, Int.reduceToNat, Int.cast_ofNat_Int, decide_true, decide_false, Bool.not_true, Bool.not_false, beq_self_eq_true, Bool.true_and, Bool.and_true, true_and, and_true, hl, e]
  rw [ix_ref (v := .d (xs[v.1.toNat])) (get_T.trans hp) (atI_nat hv0 (by rw [List.getElem?_map, List.getElem?_eq_getElem hlt]; rfl))]
  ((repeat' apply And.intro) <;> first | trivial | rfl | assumption | skip)
theorem allD_map : ∀ xs : List D, allD (xs.map .d) = some xs
  | [] => rfl
  | x :: xs => by rw [List.map_cons, allD, allD_map xs]; rfl
theorem erase_perm {α : Type} : ∀ (l : List α) (j : Nat) (h : j < l.length), (l[j] :: l.eraseIdx j).Perm l
  | x :: l, 0, h => List.Perm.refl _
  | x :: l, j + 1, h => by
    have hj : j < l.length := by simpa using h
    have q := erase_perm l j hj
    show (l[j] :: x :: l.eraseIdx j).Perm (x :: l)
    exact (List.Perm.swap ..).trans (List.Perm.cons x q)
theorem map_erase : ∀ (l : List D) (j : Nat), (l.map Xv.d).eraseIdx j = (l.eraseIdx j).map .d
  | [], _ => rfl
  | _ :: _, 0 => rfl
  | x :: l, j + 1 => by
    show _ :: (l.map Xv.d).eraseIdx j = _ :: (l.eraseIdx j).map .d
    rw [map_erase l j]
def T2 (T : Sto) (l f : List D) : Sto := T ++ [.lst (l.map .d), .lst (f.map .d)]
theorem t2_0 {T : Sto} {l f : List D} : (T2 T l f)[T.length]? = some (.lst (l.map .d)) := by
  unfold T2
  rw [List.getElem?_append_right (Nat.le_refl _), Nat.sub_self]
  rfl
theorem t2_1 {T : Sto} {l f : List D} : (T2 T l f)[T.length + 1]? = some (.lst (f.map .d)) := by
  unfold T2
  rw [List.getElem?_append_right (by omega), show T.length + 1 - T.length = 1 by omega]
  rfl
theorem st_set {b : Bs} {T : Sto} {i : Nat} {o : MO} : (b.sto ++ T).set (3 + i) o = b.sto ++ T.set i o := by
  rw [List.set_append_right _ _ (by simp [Bs.sto])]
  simp [Bs.sto]
theorem t2_s0 {T : Sto} {l f l' : List D} : (T2 T l f).set T.length (.lst (l'.map .d)) = T2 T l' f := by
  unfold T2
  rw [List.set_append_right _ _ (Nat.le_refl _), Nat.sub_self]
  rfl
theorem t2_s1 {T : Sto} {l f f' : List D} : (T2 T l f).set (T.length + 1) (.lst (f'.map .d)) = T2 T l f' := by
  unfold T2
  rw [List.set_append_right _ _ (by omega), show T.length + 1 - T.length = 1 by omega]
  rfl
theorem shuf_so (k : Nat) (b : Bs) (n : Nat) (T : Sto) (x : Xv) (xs : List D) (hb : b.Ok n) (hn : n + xs.length ≤ 1000000) (hx : ∀ b : Bs, seqX (b.sto ++ T) x = some xs) (ht : ∀ d ∈ xs, Tk d) (hT : clT T = true) :
    ∃ v : List D × Bs, (v.1.Perm xs ∧ v.2.Ok (n + xs.length)) ∧ callN ds (k + 4) 6 [.r 2, x] (b.sto ++ T) = .ok (.d (.list v.1)) (v.2.sto ++ T) := by
  have h : wp (callN ds (k + 4) 6 [.r 2, x] (b.sto ++ T)) fun y S' => ∃ v : List D × Bs, (v.1.Perm xs ∧ v.2.Ok (n + xs.length)) ∧ y = .d (.list v.1) ∧ S' = v.2.sto ++ T := by
    rw [c_6]
    simp only [d_6, retQ_rt, retQ_nx, w_var, w_cst, w_gl, w_bin, w_neg, w_cmp, w_ix, w_call, w_bi, w_nil, w_cons, ws_nil, ws_cons, ws_pass, ws_doc, ws_ret, ws_retN, ws_expr, ws_set, ws_if, ws_for, wi_seq, ws_brk, ws_cont, w_not, w_isN, w_ntN, wq_and, wq_or, w_ife, w_chn, w_tup, w_lst, w_lstR, w_sl, wo_no, wo_yes, w_isi, w_lc, w_lcR, w_lc2, w_gen, w_frz, wi_rng1, wi_rng2, wi_zip, wi_zipS, wi_enm, ws_tp, ws_par, ws_setI, nxQ_nx, nxQ_rt, nxQ_bk, nxQ_ct, brQ_t, brQ_f, alQ_s, wp_ok, List.getElem?_cons_zero, List.getElem?_cons_succ, List.set_cons_zero, List.set_cons_succ, List.length_cons, List.length_nil, List.map_cons, List.map_nil, List.cons_append, List.nil_append, List.replicate_succ, List.replicate_zero, Bi.f, allD, Option.map_some, wb_add, wb_sub, wb_mul, wb_mod, wb_fdiv, tru_b, tru_i, cb_le, cb_lt, cb_ge, cb_gt, cb_eq, cb_ne, wc_of, brQ_b, if_true, if_false, Bool.false_eq_true, ft_l, ft_t, fl_l, fl_t, fi_i, ty_t, ty_l, ty_i, ty_b, w_truncF, ix_t0, ix_t1, ix_t2, ix_t3, isi_tt, isi_lt, isi_it, isi_ii, isi_bi, isi_bb, isi_ib, w_dct, wv_nil, wv_cons, w_app, w_rem, mQ_r, Nat.reduceAdd, Nat.zero_add, Nat.reduceMul, Nat.reduceSub, Int.reduceAdd, Int.reduceSub, Int.reduceMul, Int.reduceLT, Int.reduceLE, Int.reduceEq, Int.reduceBEq, Int.reduceNeg, Int.reduceToNat, Int.cast_ofNat_Int, decide_true, decide_false, Bool.not_true, Bool.not_false, beq_self_eq_true, Bool.true_and, Bool.and_true, true_and, and_true]
    have e1 : ∀ Q : Xv → Sto → Prop, wp (fLstR [x] (b.sto ++ T)) Q = Q (.r (3 + T.length)) (b.sto ++ T ++ [.lst (xs.map .d)]) := fun Q => by
      unfold fLstR
      dsimp only
      rw [hx b, ← sto_len (b := b)]
      rfl
    have e2 : b.sto ++ T ++ [.lst (xs.map .d)] ++ [.lst []] = b.sto ++ T2 T xs [] := by simp [T2]
    have e3 : (b.sto ++ T ++ [MO.lst (xs.map .d)]).length = 3 + (T.length + 1) := by simp [Bs.sto]; omega
    have e4 : ∀ Q : Xv → Sto → Prop, wp (fLen [.r (3 + T.length)] (b.sto ++ T2 T xs [])) Q = Q (.d (.int xs.length)) (b.sto ++ T2 T xs []) := fun Q => by
      unfold fLen lenX
      dsimp only
      rw [get_T, t2_0]
      simp only [List.length_map]
      rfl
    simp only [e1, e2, e3, e4]
    rw [rg1 (by omega)]
    refine for_rangeS (fun i ρ S => ∃ (b : Bs) (l f : List D) (a c : Option Xv), b.Ok (n + i) ∧ (f ++ l).Perm xs ∧ f.length = i ∧ S = b.sto ++ T2 T l f ∧ ρ = [some (.r 2), some x, a, some (.r (3 + T.length)), some (.r (3 + (T.length + 1))), c]) xs.length
      ⟨b, xs, [], none, none, hb, List.Perm.refl _, rfl, rfl, rfl⟩ (fun i ρ S hi h => ?_) fun ρ' S' h => ?_
    · obtain ⟨b, l, f, a, c, hb, hp, hf, rfl, rfl⟩ := h
      refine ⟨_, rfl, ?_⟩
      have hlen : f.length + l.length = xs.length := by rw [← List.length_append]; exact hp.length_eq
      have hne : l ≠ [] := fun z => by rw [z, List.length_nil] at hlen; omega
      have hsub : ∀ d ∈ l, d ∈ xs := fun d hd => hp.mem_iff.mp (List.mem_append_right _ hd)
      simp only [w_var, w_cst, w_gl, w_bin, w_neg, w_cmp, w_ix, w_call, w_bi, w_nil, w_cons, ws_nil, ws_cons, ws_pass, ws_doc, ws_ret, ws_retN, ws_expr, ws_set, ws_if, ws_for, wi_seq, ws_brk, ws_cont, w_not, w_isN, w_ntN, wq_and, wq_or, w_ife, w_chn, w_tup, w_lst, w_lstR, w_sl, wo_no, wo_yes, w_isi, w_lc, w_lcR, w_lc2, w_gen, w_frz, wi_rng1, wi_rng2, wi_zip, wi_zipS, wi_enm, ws_tp, ws_par, ws_setI, nxQ_nx, nxQ_rt, nxQ_bk, nxQ_ct, brQ_t, brQ_f, alQ_s, wp_ok, List.getElem?_cons_zero, List.getElem?_cons_succ, List.set_cons_zero, List.set_cons_succ, List.length_cons, List.length_nil, List.map_cons, List.map_nil, List.cons_append, List.nil_append, List.replicate_succ, List.replicate_zero, Bi.f, allD, Option.map_some, wb_add, wb_sub, wb_mul, wb_mod, wb_fdiv, tru_b, tru_i, cb_le, cb_lt, cb_ge, cb_gt, cb_eq, cb_ne, wc_of, brQ_b, if_true, if_false, Bool.false_eq_true, ft_l, ft_t, fl_l, fl_t, fi_i, ty_t, ty_l, ty_i, ty_b, w_truncF, ix_t0, ix_t1, ix_t2, ix_t3, isi_tt, isi_lt, isi_it, isi_ii, isi_bi, isi_bb, isi_ib, w_dct, wv_nil, wv_cons, w_app, w_rem, mQ_r, Nat.reduceAdd, Nat.zero_add, Nat.reduceMul, Nat.reduceSub, Int.reduceAdd, Int.reduceSub, Int.reduceMul, Int.reduceLT, Int.reduceLE, Int.reduceEq, Int.reduceBEq, Int.reduceNeg, Int.reduceToNat, Int.cast_ofNat_Int, decide_true, decide_false, Bool.not_true, Bool.not_false, beq_self_eq_true, Bool.true_and, Bool.and_true, true_and, and_true]
      refine wp_of_ex (of_ref k b (n + i) (T2 T l f) T.length l hb (by omega) hne (by omega) t2_0) fun v hv => ?_
      obtain ⟨hv1, hb1⟩ := hv
      have a1 : isLst (v.2.sto ++ T2 T l f) (3 + (T.length + 1)) := ⟨_, get_T.trans t2_1⟩
      have a2 : ∀ Q : Xv → Sto → Prop, wp (fApp (3 + (T.length + 1)) (.d v.1) (v.2.sto ++ T2 T l f)) Q = Q (.d .none) (v.2.sto ++ T2 T l (f ++ [v.1])) := fun Q => by
        unfold fApp
        rw [get_T, t2_1]
        dsimp only
        rw [if_pos (by rw [List.length_map, sizeLine_eq]; omega), st_set, show f.map Xv.d ++ [Xv.d v.1] = (f ++ [v.1]).map .d by simp, t2_s1]
        rfl
      have a3 : isLst (v.2.sto ++ T2 T l (f ++ [v.1])) (3 + T.length) := ⟨_, get_T.trans t2_0⟩
      obtain ⟨j, hj, hjv⟩ := place_at (fun d hd => ht d (hsub d hd)) hv1
      have hjl : j < l.length := (List.getElem?_eq_some_iff.mp hjv).1
      have a4 : ∀ Q : Xv → Sto → Prop, wp (fRem (3 + T.length) (.d v.1) (v.2.sto ++ T2 T l (f ++ [v.1]))) Q = Q (.d .none) (v.2.sto ++ T2 T (l.eraseIdx j) (f ++ [v.1])) := fun Q => by
        unfold fRem
        rw [get_T, t2_0]
        simp only [allD_map, datOf]
        rw [tk_all fun d hd => ht d (hsub d hd), (ht v.1 (hsub _ hv1)).pl, decide_eq_true (ht v.1 (hsub _ hv1)).dp, hj]
        simp only [Bool.and_self, if_true]
        rw [st_set, show (l.map Xv.d).eraseIdx j = (l.eraseIdx j).map .d from map_erase l j, t2_s0]
        rfl
      simp only [w_var, w_cst, w_gl, w_bin, w_neg, w_cmp, w_ix, w_call, w_bi, w_nil, w_cons, ws_nil, ws_cons, ws_pass, ws_doc, ws_ret, ws_retN, ws_expr, ws_set, ws_if, ws_for, wi_seq, ws_brk, ws_cont, w_not, w_isN, w_ntN, wq_and, wq_or, w_ife, w_chn, w_tup, w_lst, w_lstR, w_sl, wo_no, wo_yes, w_isi, w_lc, w_lcR, w_lc2, w_gen, w_frz, wi_rng1, wi_rng2, wi_zip, wi_zipS, wi_enm, ws_tp, ws_par, ws_setI, nxQ_nx, nxQ_rt, nxQ_bk, nxQ_ct, brQ_t, brQ_f, alQ_s, wp_ok, List.getElem?_cons_zero, List.getElem?_cons_succ, List.set_cons_zero, List.set_cons_succ, List.length_cons, List.length_nil, List.map_cons, List.map_nil, List.cons_append, List.nil_append, List.replicate_succ, List.replicate_zero, Bi.f, allD, Option.map_some, wb_add, wb_sub, wb_mul, wb_mod, wb_fdiv, tru_b, tru_i, cb_le, cb_lt, cb_ge, cb_gt, cb_eq, cb_ne, wc_of, brQ_b, if_true, if_false, Bool.false_eq_true, ft_l, ft_t, fl_l, fl_t, fi_i, ty_t, ty_l, ty_i, ty_b, w_truncF, ix_t0, ix_t1, ix_t2, ix_t3, isi_tt, isi_lt, isi_it, isi_ii, isi_bi, isi_bb, isi_ib, w_dct, wv_nil, wv_cons, w_app, w_rem, mQ_r, Nat.reduceAdd, Nat.zero_add, Nat.reduceMul, Nat.reduceSub, Int.reduceAdd, Int.reduceSub, Int.reduceMul, Int.reduceLT, Int.reduceLE, Int.reduceEq, Int.reduceBEq, Int.reduceNeg, Int.reduceToNat, Int.cast_ofNat_Int, decide_true, decide_false, Bool.not_true, Bool.not_false, beq_self_eq_true, Bool.true_and, Bool.and_true, true_and, and_true, a2, a4]
      refine ⟨a1, a3, v.2, l.eraseIdx j, f ++ [v.1], _, _, hb1, ?_, by simp [hf], rfl, rfl⟩
      have q := erase_perm l j hjl
      rw [(List.getElem?_eq_some_iff.mp hjv).2] at q
      rw [List.append_assoc]
      exact ((List.Perm.append_left f q).trans hp)
    · obtain ⟨b, l, f, a, c, hb, hp, hf, rfl, rfl⟩ := h
      have hlen : f.length + l.length = xs.length := by rw [← List.length_append]; exact hp.length_eq
      have hl : l = [] := List.length_eq_zero_iff.mp (by omega)
      subst hl
      rw [List.append_nil] at hp
      have a1 : ∀ Q : Xv → Sto → Prop, wp (frzX (.r (3 + (T.length + 1))) (b.sto ++ T2 T [] f)) Q = Q (.d (.list f)) (b.sto ++ (T2 T [] f).set (T.length + 1) .dead) := fun Q => by
        unfold frzX
        dsimp only
        rw [get_T, t2_1]
        dsimp only
        rw [allD_map, st_set]
        rfl
      simp only [w_var, w_cst, w_gl, w_bin, w_neg, w_cmp, w_ix, w_call, w_bi, w_nil, w_cons, ws_nil, ws_cons, ws_pass, ws_doc, ws_ret, ws_retN, ws_expr, ws_set, ws_if, ws_for, wi_seq, ws_brk, ws_cont, w_not, w_isN, w_ntN, wq_and, wq_or, w_ife, w_chn, w_tup, w_lst, w_lstR, w_sl, wo_no, wo_yes, w_isi, w_lc, w_lcR, w_lc2, w_gen, w_frz, wi_rng1, wi_rng2, wi_zip, wi_zipS, wi_enm, ws_tp, ws_par, ws_setI, nxQ_nx, nxQ_rt, nxQ_bk, nxQ_ct, brQ_t, brQ_f, alQ_s, wp_ok, List.getElem?_cons_zero, List.getElem?_cons_succ, List.set_cons_zero, List.set_cons_succ, List.length_cons, List.length_nil, List.map_cons, List.map_nil, List.cons_append, List.nil_append, List.replicate_succ, List.replicate_zero, Bi.f, allD, Option.map_some, wb_add, wb_sub, wb_mul, wb_mod, wb_fdiv, tru_b, tru_i, cb_le, cb_lt, cb_ge, cb_gt, cb_eq, cb_ne, wc_of, brQ_b, if_true, if_false, Bool.false_eq_true, ft_l, ft_t, fl_l, fl_t, fi_i, ty_t, ty_l, ty_i, ty_b, w_truncF, ix_t0, ix_t1, ix_t2, ix_t3, isi_tt, isi_lt, isi_it, isi_ii, isi_bi, isi_bb, isi_ib, w_dct, wv_nil, wv_cons, w_app, w_rem, mQ_r, Nat.reduceAdd, Nat.zero_add, Nat.reduceMul, Nat.reduceSub, Int.reduceAdd, Int.reduceSub, Int.reduceMul, Int.reduceLT, Int.reduceLE, Int.reduceEq, Int.reduceBEq, Int.reduceNeg, Int.reduceToNat, Int.cast_ofNat_Int, decide_true, decide_false, Bool.not_true, Bool.not_false, beq_self_eq_true, Bool.true_and, Bool.and_true, true_and, and_true, a1]
      have a2 : b.sto ++ (T2 T [] f).set (T.length + 1) .dead = (b.sto ++ T) ++ [.lst [], .dead] := by
        unfold T2
        rw [List.set_append_right _ _ (by omega), show T.length + 1 - T.length = 1 by omega, List.append_assoc]
        rfl
      rw [a2]
      refine w_truncT (by simp [Bs.sto]) (cl_sto hT) ⟨(f, b), ⟨hp, hb⟩, rfl, rfl⟩
  obtain ⟨x, S', e, v, hv, rfl, rfl⟩ := wp_eq h
  exact ⟨v, hv, e⟩
/-! ### the law -/
theorem like_same (k : Nat) (S : Sto) (d : D) (h w : Nat) (n : Nc h w d) (hh : h ≤ 64) (hw : w ≤ 16777216) : callN ds (k + 1) 1 [.d d, .d d] S = .ok (.d (.bool true)) S := by
  refine eq_of_wp ?_
  rw [c_1]
  simp only [d_1, retQ_rt, retQ_nx, w_var, w_cst, w_gl, w_bin, w_neg, w_cmp, w_ix, w_call, w_bi, w_nil, w_cons, ws_nil, ws_cons, ws_pass, ws_doc, ws_ret, ws_retN, ws_expr, ws_set, ws_if, ws_for, wi_seq, ws_brk, ws_cont, w_not, w_isN, w_ntN, wq_and, wq_or, w_ife, w_chn, w_tup, w_lst, w_lstR, w_sl, wo_no, wo_yes, w_isi, w_lc, w_lcR, w_lc2, w_gen, w_frz, wi_rng1, wi_rng2, wi_zip, wi_zipS, wi_enm, ws_tp, ws_par, ws_setI, nxQ_nx, nxQ_rt, nxQ_bk, nxQ_ct, brQ_t, brQ_f, alQ_s, wp_ok, List.getElem?_cons_zero, List.getElem?_cons_succ, List.set_cons_zero, List.set_cons_succ, List.length_cons, List.length_nil, List.map_cons, List.map_nil, List.cons_append, List.nil_append, List.replicate_succ, List.replicate_zero, Bi.f, allD, Option.map_some, wb_add, wb_sub, wb_mul, wb_mod, wb_fdiv, tru_b, tru_i, cb_le, cb_lt, cb_ge, cb_gt, cb_eq, cb_ne, wc_of, brQ_b, if_true, if_false, Bool.false_eq_true, ft_l, ft_t, fl_l, fl_t, fi_i, ty_t, ty_l, ty_i, ty_b, w_truncF, ix_t0, ix_t1, ix_t2, ix_t3, isi_tt, isi_lt, isi_it, isi_ii, isi_bi, isi_bb, isi_ib, w_dct, wv_nil, wv_cons, w_app, w_rem, mQ_r, Nat.reduceAdd, Nat.zero_add, Nat.reduceMul, Nat.reduceSub, Int.reduceAdd, Int.reduceSub, Int.reduceMul, Int.reduceLT, Int.reduceLE, Int.reduceEq, Int.reduceBEq, Int.reduceNeg, Int.reduceToNat, Int.cast_ofNat_Int, decide_true, decide_false, Bool.not_true, Bool.not_false, beq_self_eq_true, Bool.true_and, Bool.and_true, true_and, and_true, wp_repr n hh hw, str_eq]
def unrow : D → List Int
  | .tuple ds => ds.map fun d => match d with
    | .int i => i
    | _ => 0
  | _ => []
theorem unrow_row (r : List Int) : unrow (rowD r) = r := by
  show (r.map PyData.int).map _ = r
  rw [List.map_map]
  exact List.map_id r
theorem rows_of_perm {ds : List D} {rows : List (List Int)} (h : ds.Perm (rows.map rowD)) : ∃ rs : List (List Int), ds = rs.map rowD ∧ rs.Perm rows := by
  refine ⟨ds.map unrow, ?_, ?_⟩
  · rw [List.map_map]
    have : ∀ d ∈ ds, (rowD ∘ unrow) d = d := fun d hd => by
      obtain ⟨r, _, rfl⟩ := List.mem_map.mp (h.mem_iff.mp hd)
      show rowD (unrow (rowD r)) = _
      rw [unrow_row]
    conv => lhs; rw [← List.map_id ds]
    exact List.map_congr_left fun d hd => (this d hd).symm
  · have := h.map unrow
    rw [List.map_map] at this
    have e : rows.map (unrow ∘ rowD) = rows := by
      conv => rhs; rw [← List.map_id rows]
      exact List.map_congr_left fun r _ => unrow_row r
    rw [e] at this
    exact this
/-- some of the rows in a drawn order, sorted -/
theorem some_rows (k : Nat) (b : Bs) (n : Nat) (x : Xv) (p : Nat) (rows : List (List Int)) (m : Nat) (hb : b.Ok n) (hn : n + 16 ≤ 1000000) (hx : ∀ b : Bs, seqX (b.sto ++ []) x = some (rows.map rowD)) (h1 : 1 ≤ p) (hs : rows.Sublist (rowsL p)) (hl : rows.length ≤ 16) :
    ∃ v : List (List Int) × Bs, (Rows p v.1 ∧ Asc v.1 ∧ v.1.length ≤ m ∧ v.1.length ≤ 16 ∧ v.2.Ok (n + 16)) ∧ ∃ es : List D, callN ds (k + 4) 6 [.r 2, x] (b.sto ++ []) = .ok (.d (.list es)) (v.2.sto ++ []) ∧
      sortB (es.take m) = true ∧ sortD (es.take m) = v.1.map rowD := by
  have ht : ∀ d ∈ rows.map rowD, Tk d := fun d hd => by
    obtain ⟨r, _, rfl⟩ := List.mem_map.mp hd
    exact tk_row r
  obtain ⟨v, ⟨hp, hb1⟩, e⟩ := shuf_so k b n [] x (rows.map rowD) hb (by rw [List.length_map]; omega) hx ht rfl
  obtain ⟨rs, e1, hp1⟩ := rows_of_perm hp
  have hmem : ∀ r ∈ rs.take m, r ∈ rowsL p := fun r hr => hs.subset (hp1.mem_iff.mp (List.mem_of_mem_take hr))
  have hnd : (rs.take m).Nodup := by
    have h0 : rows.Nodup := (asc_nodup (rowsL_asc p)).sublist hs
    exact (hp1.nodup_iff.mpr h0).sublist (List.take_sublist ..)
  have hpm := sortL_perm (rs.take m)
  have hlr : rs.length ≤ 16 := by rw [hp1.length_eq]; exact hl
  refine ⟨(sortL (rs.take m), v.2), ⟨⟨fun r hr => (rowsL_mem.mp (hmem r (hpm.mem_iff.mp hr))).1, fun r hr => (rowsL_mem.mp (hmem r (hpm.mem_iff.mp hr))).2⟩, sortL_asc hnd, ?_, ?_, hb1.mono (by rw [List.length_map]; omega)⟩, v.1, e, ?_, ?_⟩
  · rw [hpm.length_eq, List.length_take]; omega
  · rw [hpm.length_eq, List.length_take]; omega
  · rw [e1, ← List.map_take]
    exact sortB_rows fun r hr z => by
      have := (rowsL_mem.mp (hmem r hr)).1
      rw [z] at this
      have : 0 = p := this
      omega
  · rw [e1, ← List.map_take, sortD_rows]
theorem cut_take {α : Type} (xs : List α) (m : Nat) : PB.cutD xs none (some (m : Int)) = xs.take m := by
  unfold PB.cutD
  rw [HT.sIx_none, HT.sIx_nat, List.drop_zero, Nat.sub_zero]
  rcases Nat.le_total m xs.length with h | h
  · rw [Nat.min_eq_left h]
  · rw [Nat.min_eq_right h, List.take_length, List.take_of_length_le h]
theorem nc_rows {c : List (List Int)} (hc : c.length ≤ 16) (hl : ∀ r ∈ c, r.length ≤ 4) (hb : ∀ r ∈ c, Bits r) : Nc 2 563 (rowsD c) := by
  refine nc_tup (h := 1) (w := 33) (n := 16) (fun d hd => ?_) (by rw [List.length_map]; exact hc) |>.mono (by omega) (by omega)
  obtain ⟨r, hr, rfl⟩ := List.mem_map.mp hd
  refine nc_tup (h := 0) (w := 5) (n := 4) (fun d hd => ?_) (by rw [List.length_map]; exact hl r hr) |>.mono (by omega) (by omega)
  obtain ⟨b, hb', rfl⟩ := List.mem_map.mp hd
  exact nc_bit (hb r hr b hb')
theorem keep_both {n : Nat} {vals : List Int} {p : Nat} {rows far : List (List Int)} (h1 : keepB n vals p rows = true) (h2 : keepB n vals p far = true) : keepB n vals p (rows.filter fun r => far.contains r) = true := by
  unfold keepB brk at *
  rw [Option.isNone_iff_eq_none, List.find?_eq_none] at *
  intro c hc
  obtain ⟨c1, c2⟩ := choices_mem.mp hc
  have a1 := h1 c (choices_mem.mpr ⟨c1, fun r hr => (List.mem_filter.mp (c2 r hr)).1⟩)
  have a2 := h2 c (choices_mem.mpr ⟨c1, fun r hr => List.contains_iff_mem.mp (List.mem_filter.mp (c2 r hr)).2⟩)
  simp only [Bool.not_eq_true', Bool.not_eq_false', Bool.not_eq_true, Bool.not_eq_false, List.contains_iff_mem] at a1 a2 ⊢
  exact List.mem_filter.mpr ⟨a1, by simpa using a2⟩
theorem keep_none {n : Nat} {vals : List Int} {p : Nat} (h : 1 ≤ n) : keepB n vals p [] = true := by
  unfold keepB brk
  rw [Option.isNone_iff_eq_none, List.find?_eq_none]
  intro c hc
  obtain ⟨c1, c2⟩ := choices_mem.mp hc
  cases c with
  | nil => rw [← c1] at h; exact absurd h (by decide)
  | cons r c => exact absurd (c2 r (List.mem_cons_self ..)) List.not_mem_nil
theorem keep_all {n : Nat} {vals : List Int} {p : Nat} (hv : Bits vals) (hl : vals.length = 2 ^ n) : keepB n vals p (rowsL p) = true := by
  unfold keepB brk
  rw [Option.isNone_iff_eq_none, List.find?_eq_none]
  intro c hc
  obtain ⟨c1, c2⟩ := choices_mem.mp hc
  simp only [Bool.not_eq_true', Bool.not_eq_false', Bool.not_eq_true, Bool.not_eq_false, List.contains_iff_mem]
  unfold putR cols
  refine rowsL_mem.mpr ⟨by simp, fun b hb => ?_⟩
  rw [List.map_map] at hb
  obtain ⟨s, hs, rfl⟩ := List.mem_map.mp hb
  refine worth_bit hv (fun b hb => ?_) (by rw [List.length_map, c1]; exact hl)
  obtain ⟨r, hr, rfl⟩ := List.mem_map.mp hb
  obtain ⟨r1, r2⟩ := rowsL_mem.mp (c2 r hr)
  have hsl : s < r.length := by rw [r1]; exact List.mem_range.mp hs
  rw [List.getD_eq_getElem?_getD, List.getElem?_eq_getElem hsl]
  exact r2 _ (List.getElem_mem hsl)
theorem law_so (ns : List Int) (hl : ns.length ≤ 63) : wp (callN ds 12 0 [.r 0] (script0 ns)) fun x _ => x = .d (.bool true) := by
  rw [c_0]
  obtain ⟨b, hb, eb⟩ := begin_so 10 ns hl
  simp only [d_0, retQ_rt, retQ_nx, w_var, w_cst, w_gl, w_bin, w_neg, w_cmp, w_ix, w_call, w_bi, w_nil, w_cons, ws_nil, ws_cons, ws_pass, ws_doc, ws_ret, ws_retN, ws_expr, ws_set, ws_if, ws_for, wi_seq, ws_brk, ws_cont, w_not, w_isN, w_ntN, wq_and, wq_or, w_ife, w_chn, w_tup, w_lst, w_lstR, w_sl, wo_no, wo_yes, w_isi, w_lc, w_lcR, w_lc2, w_gen, w_frz, wi_rng1, wi_rng2, wi_zip, wi_zipS, wi_enm, ws_tp, ws_par, ws_setI, nxQ_nx, nxQ_rt, nxQ_bk, nxQ_ct, brQ_t, brQ_f, alQ_s, wp_ok, List.getElem?_cons_zero, List.getElem?_cons_succ, List.set_cons_zero, List.set_cons_succ, List.length_cons, List.length_nil, List.map_cons, List.map_nil, List.cons_append, List.nil_append, List.replicate_succ, List.replicate_zero, Bi.f, allD, Option.map_some, wb_add, wb_sub, wb_mul, wb_mod, wb_fdiv, tru_b, tru_i, cb_le, cb_lt, cb_ge, cb_gt, cb_eq, cb_ne, wc_of, brQ_b, if_true, if_false, Bool.false_eq_true, ft_l, ft_t, fl_l, fl_t, fi_i, ty_t, ty_l, ty_i, ty_b, w_truncF, ix_t0, ix_t1, ix_t2, ix_t3, isi_tt, isi_lt, isi_it, isi_ii, isi_bi, isi_bb, isi_ib, w_dct, wv_nil, wv_cons, w_app, w_rem, mQ_r, Nat.reduceAdd, Nat.zero_add, Nat.reduceMul, Nat.reduceSub, Int.reduceAdd, Int.reduceSub, Int.reduceMul, Int.reduceLT, Int.reduceLE, Int.reduceEq, Int.reduceBEq, Int.reduceNeg, Int.reduceToNat, Int.cast_ofNat_Int, decide_true, decide_false, Bool.not_true, Bool.not_false, beq_self_eq_true, Bool.true_and, Bool.and_true, true_and, and_true, eb]
  rw [show (2 : Int) = ((2 : Nat) : Int) from rfl, rg1 (by decide)]
  refine for_rangeS (fun i ρ S => ∃ (b : Bs) (a2 a3 a4 a5 a6 a7 a8 a9 a10 a11 a12 : Option Xv), b.Ok (1000 * i) ∧ S = b.sto ++ [] ∧ ρ = [some (.r 0), some (.r 2), a2, a3, a4, a5, a6, a7, a8, a9, a10, a11, a12]) 2
    ⟨b, none, none, none, none, none, none, none, none, none, none, none, hb, by simp, rfl⟩ (fun i ρ S hi h => ?_) fun ρ' S' h => ?_
  · obtain ⟨b, a2, a3, a4, a5, a6, a7, a8, a9, a10, a11, a12, hb, rfl, rfl⟩ := h
    refine ⟨_, rfl, ?_⟩
    simp only [w_var, w_cst, w_gl, w_bin, w_neg, w_cmp, w_ix, w_call, w_bi, w_nil, w_cons, ws_nil, ws_cons, ws_pass, ws_doc, ws_ret, ws_retN, ws_expr, ws_set, ws_if, ws_for, wi_seq, ws_brk, ws_cont, w_not, w_isN, w_ntN, wq_and, wq_or, w_ife, w_chn, w_tup, w_lst, w_lstR, w_sl, wo_no, wo_yes, w_isi, w_lc, w_lcR, w_lc2, w_gen, w_frz, wi_rng1, wi_rng2, wi_zip, wi_zipS, wi_enm, ws_tp, ws_par, ws_setI, nxQ_nx, nxQ_rt, nxQ_bk, nxQ_ct, brQ_t, brQ_f, alQ_s, wp_ok, List.getElem?_cons_zero, List.getElem?_cons_succ, List.set_cons_zero, List.set_cons_succ, List.length_cons, List.length_nil, List.map_cons, List.map_nil, List.cons_append, List.nil_append, List.replicate_succ, List.replicate_zero, Bi.f, allD, Option.map_some, wb_add, wb_sub, wb_mul, wb_mod, wb_fdiv, tru_b, tru_i, cb_le, cb_lt, cb_ge, cb_gt, cb_eq, cb_ne, wc_of, brQ_b, if_true, if_false, Bool.false_eq_true, ft_l, ft_t, fl_l, fl_t, fi_i, ty_t, ty_l, ty_i, ty_b, w_truncF, ix_t0, ix_t1, ix_t2, ix_t3, isi_tt, isi_lt, isi_it, isi_ii, isi_bi, isi_bb, isi_ib, w_dct, wv_nil, wv_cons, w_app, w_rem, mQ_r, Nat.reduceAdd, Nat.zero_add, Nat.reduceMul, Nat.reduceSub, Int.reduceAdd, Int.reduceSub, Int.reduceMul, Int.reduceLT, Int.reduceLE, Int.reduceEq, Int.reduceBEq, Int.reduceNeg, Int.reduceToNat, Int.cast_ofNat_Int, decide_true, decide_false, Bool.not_true, Bool.not_false, beq_self_eq_true, Bool.true_and, Bool.and_true, true_and, and_true]
    refine wp_of_ex (values_so 8 b _ [] 16 hb (by omega)) fun v hv => ?_
    obtain ⟨vals, b1⟩ := v
    obtain ⟨hv1, hv2, hb1⟩ := hv
    dsimp only at hv1 hv2 hb1 ⊢
    simp only [w_var, w_cst, w_gl, w_bin, w_neg, w_cmp, w_ix, w_call, w_bi, w_nil, w_cons, ws_nil, ws_cons, ws_pass, ws_doc, ws_ret, ws_retN, ws_expr, ws_set, ws_if, ws_for, wi_seq, ws_brk, ws_cont, w_not, w_isN, w_ntN, wq_and, wq_or, w_ife, w_chn, w_tup, w_lst, w_lstR, w_sl, wo_no, wo_yes, w_isi, w_lc, w_lcR, w_lc2, w_gen, w_frz, wi_rng1, wi_rng2, wi_zip, wi_zipS, wi_enm, ws_tp, ws_par, ws_setI, nxQ_nx, nxQ_rt, nxQ_bk, nxQ_ct, brQ_t, brQ_f, alQ_s, wp_ok, List.getElem?_cons_zero, List.getElem?_cons_succ, List.set_cons_zero, List.set_cons_succ, List.length_cons, List.length_nil, List.map_cons, List.map_nil, List.cons_append, List.nil_append, List.replicate_succ, List.replicate_zero, Bi.f, allD, Option.map_some, wb_add, wb_sub, wb_mul, wb_mod, wb_fdiv, tru_b, tru_i, cb_le, cb_lt, cb_ge, cb_gt, cb_eq, cb_ne, wc_of, brQ_b, if_true, if_false, Bool.false_eq_true, ft_l, ft_t, fl_l, fl_t, fi_i, ty_t, ty_l, ty_i, ty_b, w_truncF, ix_t0, ix_t1, ix_t2, ix_t3, isi_tt, isi_lt, isi_it, isi_ii, isi_bi, isi_bb, isi_ib, w_dct, wv_nil, wv_cons, w_app, w_rem, mQ_r, Nat.reduceAdd, Nat.zero_add, Nat.reduceMul, Nat.reduceSub, Int.reduceAdd, Int.reduceSub, Int.reduceMul, Int.reduceLT, Int.reduceLE, Int.reduceEq, Int.reduceBEq, Int.reduceNeg, Int.reduceToNat, Int.cast_ofNat_Int, decide_true, decide_false, Bool.not_true, Bool.not_false, beq_self_eq_true, Bool.true_and, Bool.and_true, true_and, and_true]
    refine wp_of_ex (law_tie_so 7 b1 _ [] 1 4 hb1 (by omega) (by decide) (by decide) (by decide)) fun t ht => ?_
    obtain ⟨⟨p, rows⟩, b2⟩ := t
    obtain ⟨p1, p4, ts, hb2⟩ := ht
    dsimp only at p1 p4 ts hb2 ⊢
    have hl16 : (rowsL p).length ≤ 16 := by
      rw [rowsL_len]
      exact Nat.le_trans (Nat.pow_le_pow_right (by decide) p4) (by decide)
    have hrl : rows.length ≤ 16 := Nat.le_trans ts.length_le hl16
    rw [show asgT (.tp [10, 11]) (.d (tieD p rows)) [some (.r 0), some (.r 2), some (.d (.int i)), some (.d (.tuple [.int 4, rowD vals])), a4, a5, a6, a7, a8, a9, a10, a11, a12] =
      some [some (.r 0), some (.r 2), some (.d (.int i)), some (.d (.tuple [.int 4, rowD vals])), a4, a5, a6, a7, a8, a9, some (.d (.int p)), some (.d (rowsD rows)), a12] from rfl]
    obtain ⟨⟨tie, b3⟩, ⟨g1, g2, g3, g4, hb3⟩, es, e3, e4, e5⟩ := some_rows 7 b2 _ (.d (rowsD rows)) p rows 5 hb2 (by omega) (fun _ => rfl) p1 ts hrl
    dsimp only at g1 g2 g3 g4 hb3 e3 e5
    have cut5 : ∀ (S : Sto) (Q : Xv → Sto → Prop), wp (pSl (.d (.list es)) none (some 5) S) Q = Q (.d (.list (es.take 5))) S := fun S Q => by
      rw [← cut_take es 5]; rfl
    have srt5 : ∀ (S : Sto) (Q : Xv → Sto → Prop), wp (fSort [.d (.list (es.take 5))] S) Q = Q (.d (.list (tie.map rowD))) S := fun S Q => by
      unfold fSort listX
      dsimp only
      rw [if_pos e4, e5]
      rfl
    have G4 : GT 4 vals p tie := ⟨by decide, by decide, hv1, hv2, p1, p4, g1, g2, g4, by
      have : tie.length ^ 4 ≤ 5 ^ 4 := Nat.pow_le_pow_left g3 4
      omega⟩
    have tD : (.tuple [.int p, .tuple (tie.map rowD)] : D) = tieD p tie := rfl
    have gD : (.tuple [.int 4, rowD vals] : D) = gateD 4 vals := rfl
    have lb : ∀ S, callN ds 11 5 [.d (gateD 4 vals), .d (tieD p tie)] S = .ok (.d (optRows (brk 4 vals p tie))) S := fun S => law_broken 8 S 4 vals p tie G4
    have kb : ∀ S, callN ds 11 2 [.d (gateD 4 vals), .d (tieD p tie)] S = .ok (.d (.bool (brk 4 vals p tie).isNone)) S := fun S => keeps 4 S 4 vals p tie G4
    have bb : ∀ S, callN ds 11 7 [.d (gateD 4 vals), .d (tieD p tie)] S = .ok (.d (optRows (brk 4 vals p tie))) S := fun S => broken_rows 4 S 4 vals p tie G4
    have nc1 : Nc 3 1200 (.list [.bool (brk 4 vals p tie).isNone, optRows (brk 4 vals p tie)]) := by
      refine nc_lst (h := 2) (w := 563) (n := 2) (fun d hd => ?_) (Nat.le_refl _) |>.mono (by omega) (by omega)
      rcases List.mem_cons.mp hd with rfl | hd
      · exact (nc_bool _).mono (by omega) (by omega)
      · rw [List.mem_singleton.mp hd]
        cases hc : brk 4 vals p tie with
        | none => exact nc_none.mono (by omega) (by omega)
        | some c =>
          obtain ⟨c1, c2⟩ := choices_mem.mp (List.mem_of_find?_eq_some hc)
          exact nc_rows (by omega) (fun r hr => by rw [g1.ln r (c2 r hr)]; exact p4) fun r hr => g1.bt r (c2 r hr)
    have lk := fun S => like_same 10 S _ _ _ nc1 (by decide) (by decide)
    have lr := fun S => law_rows_so 10 S p (by omega)
    simp only [w_var, w_cst, w_gl, w_bin, w_neg, w_cmp, w_ix, w_call, w_bi, w_nil, w_cons, ws_nil, ws_cons, ws_pass, ws_doc, ws_ret, ws_retN, ws_expr, ws_set, ws_if, ws_for, wi_seq, ws_brk, ws_cont, w_not, w_isN, w_ntN, wq_and, wq_or, w_ife, w_chn, w_tup, w_lst, w_lstR, w_sl, wo_no, wo_yes, w_isi, w_lc, w_lcR, w_lc2, w_gen, w_frz, wi_rng1, wi_rng2, wi_zip, wi_zipS, wi_enm, ws_tp, ws_par, ws_setI, nxQ_nx, nxQ_rt, nxQ_bk, nxQ_ct, brQ_t, brQ_f, alQ_s, wp_ok, List.getElem?_cons_zero, List.getElem?_cons_succ, List.set_cons_zero, List.set_cons_succ, List.length_cons, List.length_nil, List.map_cons, List.map_nil, List.cons_append, List.nil_append, List.replicate_succ, List.replicate_zero, Bi.f, allD, Option.map_some, wb_add, wb_sub, wb_mul, wb_mod, wb_fdiv, tru_b, tru_i, cb_le, cb_lt, cb_ge, cb_gt, cb_eq, cb_ne, wc_of, brQ_b, if_true, if_false, Bool.false_eq_true, ft_l, ft_t, fl_l, fl_t, fi_i, ty_t, ty_l, ty_i, ty_b, w_truncF, ix_t0, ix_t1, ix_t2, ix_t3, isi_tt, isi_lt, isi_it, isi_ii, isi_bi, isi_bb, isi_ib, w_dct, wv_nil, wv_cons, w_app, w_rem, mQ_r, Nat.reduceAdd, Nat.zero_add, Nat.reduceMul, Nat.reduceSub, Int.reduceAdd, Int.reduceSub, Int.reduceMul, Int.reduceLT, Int.reduceLE, Int.reduceEq, Int.reduceBEq, Int.reduceNeg, Int.reduceToNat, Int.cast_ofNat_Int, decide_true, decide_false, Bool.not_true, Bool.not_false, beq_self_eq_true, Bool.true_and, Bool.and_true, true_and, and_true, e3, cut5, srt5, tD, gD, lb, kb, bb, none_opt, lk, lr]
    obtain ⟨⟨far, b4⟩, ⟨f1, f2, f3, f4, hb4⟩, fs, q3, q4, q5⟩ := some_rows 7 b3 _ (.d (.list ((rowsL p).map rowD))) p (rowsL p) 4 hb3 (by omega) (fun _ => rfl) p1 (List.Sublist.refl _) hl16
    dsimp only at f1 f2 f3 f4 hb4 q3 q5
    have cut4 : ∀ (S : Sto) (Q : Xv → Sto → Prop), wp (pSl (.d (.list fs)) none (some 4) S) Q = Q (.d (.list (fs.take 4))) S := fun S Q => by
      rw [← cut_take fs 4]; rfl
    have srt4 : ∀ (S : Sto) (Q : Xv → Sto → Prop), wp (fSort [.d (.list (fs.take 4))] S) Q = Q (.d (.list (far.map rowD))) S := fun S Q => by
      unfold fSort listX
      dsimp only
      rw [if_pos q4, q5]
      rfl
    have fD : (.tuple [.int p, .tuple (far.map rowD)] : D) = tieD p far := rfl
    have tx : ∀ (rows : List (List Int)) (S : Sto) (Q : Xv → Sto → Prop), wp (pIx (.d (tieD p rows)) (.d (.int 1)) S) Q = Q (.d (.tuple (rows.map rowD))) S := fun rows S Q => ix_t1
    simp only [w_var, w_cst, w_gl, w_bin, w_neg, w_cmp, w_ix, w_call, w_bi, w_nil, w_cons, ws_nil, ws_cons, ws_pass, ws_doc, ws_ret, ws_retN, ws_expr, ws_set, ws_if, ws_for, wi_seq, ws_brk, ws_cont, w_not, w_isN, w_ntN, wq_and, wq_or, w_ife, w_chn, w_tup, w_lst, w_lstR, w_sl, wo_no, wo_yes, w_isi, w_lc, w_lcR, w_lc2, w_gen, w_frz, wi_rng1, wi_rng2, wi_zip, wi_zipS, wi_enm, ws_tp, ws_par, ws_setI, nxQ_nx, nxQ_rt, nxQ_bk, nxQ_ct, brQ_t, brQ_f, alQ_s, wp_ok, List.getElem?_cons_zero, List.getElem?_cons_succ, List.set_cons_zero, List.set_cons_succ, List.length_cons, List.length_nil, List.map_cons, List.map_nil, List.cons_append, List.nil_append, List.replicate_succ, List.replicate_zero, Bi.f, allD, Option.map_some, wb_add, wb_sub, wb_mul, wb_mod, wb_fdiv, tru_b, tru_i, cb_le, cb_lt, cb_ge, cb_gt, cb_eq, cb_ne, wc_of, brQ_b, if_true, if_false, Bool.false_eq_true, ft_l, ft_t, fl_l, fl_t, fi_i, ty_t, ty_l, ty_i, ty_b, w_truncF, ix_t0, ix_t1, ix_t2, ix_t3, isi_tt, isi_lt, isi_it, isi_ii, isi_bi, isi_bb, isi_ib, w_dct, wv_nil, wv_cons, w_app, w_rem, mQ_r, Nat.reduceAdd, Nat.zero_add, Nat.reduceMul, Nat.reduceSub, Int.reduceAdd, Int.reduceSub, Int.reduceMul, Int.reduceLT, Int.reduceLE, Int.reduceEq, Int.reduceBEq, Int.reduceNeg, Int.reduceToNat, Int.cast_ofNat_Int, decide_true, decide_false, Bool.not_true, Bool.not_false, beq_self_eq_true, Bool.true_and, Bool.and_true, true_and, and_true, q3, cut4, srt4, fD, tx, seqIt, List.map_map]
    refine lc_pure (Xv.d ∘ rowD) (fun r => far.contains r) rowD tie [] (fun r hr => ⟨_, rfl, ?_, fun _ => ?_⟩) ?_
    · simp only [Function.comp_def, wipeR, wc_yes, w_var, w_cst, w_gl, w_bin, w_neg, w_cmp, w_ix, w_call, w_bi, w_nil, w_cons, ws_nil, ws_cons, ws_pass, ws_doc, ws_ret, ws_retN, ws_expr, ws_set, ws_if, ws_for, wi_seq, ws_brk, ws_cont, w_not, w_isN, w_ntN, wq_and, wq_or, w_ife, w_chn, w_tup, w_lst, w_lstR, w_sl, wo_no, wo_yes, w_isi, w_lc, w_lcR, w_lc2, w_gen, w_frz, wi_rng1, wi_rng2, wi_zip, wi_zipS, wi_enm, ws_tp, ws_par, ws_setI, nxQ_nx, nxQ_rt, nxQ_bk, nxQ_ct, brQ_t, brQ_f, alQ_s, wp_ok, List.getElem?_cons_zero, List.getElem?_cons_succ, List.set_cons_zero, List.set_cons_succ, List.length_cons, List.length_nil, List.map_cons, List.map_nil, List.cons_append, List.nil_append, List.replicate_succ, List.replicate_zero, Bi.f, allD, Option.map_some, wb_add, wb_sub, wb_mul, wb_mod, wb_fdiv, tru_b, tru_i, cb_le, cb_lt, cb_ge, cb_gt, cb_eq, cb_ne, wc_of, brQ_b, if_true, if_false, Bool.false_eq_true, ft_l, ft_t, fl_l, fl_t, fi_i, ty_t, ty_l, ty_i, ty_b, w_truncF, ix_t0, ix_t1, ix_t2, ix_t3, isi_tt, isi_lt, isi_it, isi_ii, isi_bi, isi_bb, isi_ib, w_dct, wv_nil, wv_cons, w_app, w_rem, mQ_r, Nat.reduceAdd, Nat.zero_add, Nat.reduceMul, Nat.reduceSub, Int.reduceAdd, Int.reduceSub, Int.reduceMul, Int.reduceLT, Int.reduceLE, Int.reduceEq, Int.reduceBEq, Int.reduceNeg, Int.reduceToNat, Int.cast_ofNat_Int, decide_true, decide_false, Bool.not_true, Bool.not_false, beq_self_eq_true, Bool.true_and, Bool.and_true, true_and, and_true, tx, cb_in]
    · simp only [Function.comp_def, wipeR, w_var, w_cst, w_gl, w_bin, w_neg, w_cmp, w_ix, w_call, w_bi, w_nil, w_cons, ws_nil, ws_cons, ws_pass, ws_doc, ws_ret, ws_retN, ws_expr, ws_set, ws_if, ws_for, wi_seq, ws_brk, ws_cont, w_not, w_isN, w_ntN, wq_and, wq_or, w_ife, w_chn, w_tup, w_lst, w_lstR, w_sl, wo_no, wo_yes, w_isi, w_lc, w_lcR, w_lc2, w_gen, w_frz, wi_rng1, wi_rng2, wi_zip, wi_zipS, wi_enm, ws_tp, ws_par, ws_setI, nxQ_nx, nxQ_rt, nxQ_bk, nxQ_ct, brQ_t, brQ_f, alQ_s, wp_ok, List.getElem?_cons_zero, List.getElem?_cons_succ, List.set_cons_zero, List.set_cons_succ, List.length_cons, List.length_nil, List.map_cons, List.map_nil, List.cons_append, List.nil_append, List.replicate_succ, List.replicate_zero, Bi.f, allD, Option.map_some, wb_add, wb_sub, wb_mul, wb_mod, wb_fdiv, tru_b, tru_i, cb_le, cb_lt, cb_ge, cb_gt, cb_eq, cb_ne, wc_of, brQ_b, if_true, if_false, Bool.false_eq_true, ft_l, ft_t, fl_l, fl_t, fi_i, ty_t, ty_l, ty_i, ty_b, w_truncF, ix_t0, ix_t1, ix_t2, ix_t3, isi_tt, isi_lt, isi_it, isi_ii, isi_bi, isi_bb, isi_ib, w_dct, wv_nil, wv_cons, w_app, w_rem, mQ_r, Nat.reduceAdd, Nat.zero_add, Nat.reduceMul, Nat.reduceSub, Int.reduceAdd, Int.reduceSub, Int.reduceMul, Int.reduceLT, Int.reduceLE, Int.reduceEq, Int.reduceBEq, Int.reduceNeg, Int.reduceToNat, Int.cast_ofNat_Int, decide_true, decide_false, Bool.not_true, Bool.not_false, beq_self_eq_true, Bool.true_and, Bool.and_true, true_and, and_true]
    rw [List.nil_append]
    have G4f : GT 4 vals p far := ⟨by decide, by decide, hv1, hv2, p1, p4, f1, f2, f4, by
      have : far.length ^ 4 ≤ 4 ^ 4 := Nat.pow_le_pow_left f3 4
      omega⟩
    generalize hbo : tie.filter (fun r => far.contains r) = both
    have hbs : both.Sublist tie := by rw [← hbo]; exact List.filter_sublist
    have G4b : GT 4 vals p both := ⟨by decide, by decide, hv1, hv2, p1, p4, g1.sub fun r hr => hbs.subset hr, List.Pairwise.sublist hbs g2, Nat.le_trans hbs.length_le g4, by
      have : both.length ^ 4 ≤ 5 ^ 4 := Nat.pow_le_pow_left (Nat.le_trans hbs.length_le g3) 4
      omega⟩
    have bD : (.tuple [.int p, .tuple (both.map rowD)] : D) = tieD p both := rfl
    have lf : ∀ S, callN ds 11 5 [.d (gateD 4 vals), .d (tieD p far)] S = .ok (.d (optRows (brk 4 vals p far))) S := fun S => law_broken 8 S 4 vals p far G4f
    have kbo : ∀ S, callN ds 11 2 [.d (gateD 4 vals), .d (tieD p both)] S = .ok (.d (.bool (brk 4 vals p both).isNone)) S := fun S => keeps 4 S 4 vals p both G4b
    have hkk : (brk 4 vals p tie).isNone = true → (brk 4 vals p far).isNone = true → (brk 4 vals p both).isNone = true := fun h1 h2 => by
      rw [← hbo]; exact keep_both h1 h2
    have G4n : GT 4 vals p [] := ⟨by decide, by decide, hv1, hv2, p1, p4, ⟨fun r hr => absurd hr List.not_mem_nil, fun r hr => absurd hr List.not_mem_nil⟩, List.Pairwise.nil, by decide, by decide⟩
    have k4n : ∀ S, callN ds 11 2 [.d (gateD 4 vals), .d (.tuple [.int p, .tuple []])] S = .ok (.d (.bool true)) S := fun S => by
      have := keeps 4 S 4 vals p [] G4n
      rw [keep_none (by decide)] at this
      exact this
    have lt : ∀ S, callN ds 11 1 [.d (.list [.bool true, .bool true, .bool true]), .d (.list [.bool true, .bool true, .bool true])] S = .ok (.d (.bool true)) S := fun S =>
      like_same 10 S _ 1 100 ((nc_lst (h := 0) (w := 5) (n := 3) (fun d hd => by
        have : d = .bool true := by simpa using hd
        rw [this]; exact nc_bool _) (by decide)).mono (by decide) (by decide)) (by decide) (by decide)
    have hmul : ∀ (S : Sto) (Q : Xv → Sto → Prop), wp (pBin .mul (.d (.list [.bool true])) (.d (.int 3)) S) Q = Q (.d (.list [.bool true, .bool true, .bool true])) S := fun S Q => rfl
    have G3 : ∀ g : Nat × List Int, g.1 ≤ 3 → GV g → GT g.1 g.2 p [] ∧ GT g.1 g.2 p (rowsL p) := fun g h3 gv => by
      have hn1 := gv.n1
      refine ⟨⟨gv.n1, gv.n4, gv.vl, gv.vb, p1, p4, ⟨fun r hr => absurd hr List.not_mem_nil, fun r hr => absurd hr List.not_mem_nil⟩, List.Pairwise.nil, by decide, ?_⟩, ⟨gv.n1, gv.n4, gv.vl, gv.vb, p1, p4, ⟨fun r hr => (rowsL_mem.mp hr).1, fun r hr => (rowsL_mem.mp hr).2⟩, rowsL_asc p, hl16, ?_⟩⟩
      · rw [List.length_nil, Nat.zero_pow (by omega)]; omega
      · have h1 : (rowsL p).length ^ g.1 ≤ 16 ^ g.1 := Nat.pow_le_pow_left hl16 _
        have h2 : 16 ^ g.1 ≤ 16 ^ 3 := Nat.pow_le_pow_right (by decide) h3
        have h3 : 16 ^ 3 ≤ 5000 := by decide
        omega
    have kn : ∀ (g : Nat × List Int), g.1 ≤ 3 → GV g → ∀ S, callN ds 11 2 [.d (gp g), .d (.tuple [.int p, .tuple []])] S = .ok (.d (.bool true)) S := fun g h3 gv S => by
      have := keeps 4 S g.1 g.2 p [] (G3 g h3 gv).1
      rw [keep_none gv.n1] at this
      exact this
    have ka : ∀ (g : Nat × List Int), g.1 ≤ 3 → GV g → ∀ S, callN ds 11 2 [.d (gp g), .d (.tuple [.int p, .tuple ((rowsL p).map rowD)])] S = .ok (.d (.bool true)) S := fun g h3 gv S => by
      have := keeps 4 S g.1 g.2 p (rowsL p) (G3 g h3 gv).2
      rw [keep_all gv.vb gv.vl] at this
      exact this
    simp only [w_var, w_cst, w_gl, w_bin, w_neg, w_cmp, w_ix, w_call, w_bi, w_nil, w_cons, ws_nil, ws_cons, ws_pass, ws_doc, ws_ret, ws_retN, ws_expr, ws_set, ws_if, ws_for, wi_seq, ws_brk, ws_cont, w_not, w_isN, w_ntN, wq_and, wq_or, w_ife, w_chn, w_tup, w_lst, w_lstR, w_sl, wo_no, wo_yes, w_isi, w_lc, w_lcR, w_lc2, w_gen, w_frz, wi_rng1, wi_rng2, wi_zip, wi_zipS, wi_enm, ws_tp, ws_par, ws_setI, nxQ_nx, nxQ_rt, nxQ_bk, nxQ_ct, brQ_t, brQ_f, alQ_s, wp_ok, List.getElem?_cons_zero, List.getElem?_cons_succ, List.set_cons_zero, List.set_cons_succ, List.length_cons, List.length_nil, List.map_cons, List.map_nil, List.cons_append, List.nil_append, List.replicate_succ, List.replicate_zero, Bi.f, allD, Option.map_some, wb_add, wb_sub, wb_mul, wb_mod, wb_fdiv, tru_b, tru_i, cb_le, cb_lt, cb_ge, cb_gt, cb_eq, cb_ne, wc_of, brQ_b, if_true, if_false, Bool.false_eq_true, ft_l, ft_t, fl_l, fl_t, fi_i, ty_t, ty_l, ty_i, ty_b, w_truncF, ix_t0, ix_t1, ix_t2, ix_t3, isi_tt, isi_lt, isi_it, isi_ii, isi_bi, isi_bb, isi_ib, w_dct, wv_nil, wv_cons, w_app, w_rem, mQ_r, Nat.reduceAdd, Nat.zero_add, Nat.reduceMul, Nat.reduceSub, Int.reduceAdd, Int.reduceSub, Int.reduceMul, Int.reduceLT, Int.reduceLE, Int.reduceEq, Int.reduceBEq, Int.reduceNeg, Int.reduceToNat, Int.cast_ofNat_Int, decide_true, decide_false, Bool.not_true, Bool.not_false, beq_self_eq_true, Bool.true_and, Bool.and_true, true_and, and_true, lf, none_opt, bD, kbo, k4n]
    cases h1 : (brk 4 vals p tie).isNone with
    | false =>
      simp only [w_var, w_cst, w_gl, w_bin, w_neg, w_cmp, w_ix, w_call, w_bi, w_nil, w_cons, ws_nil, ws_cons, ws_pass, ws_doc, ws_ret, ws_retN, ws_expr, ws_set, ws_if, ws_for, wi_seq, ws_brk, ws_cont, w_not, w_isN, w_ntN, wq_and, wq_or, w_ife, w_chn, w_tup, w_lst, w_lstR, w_sl, wo_no, wo_yes, w_isi, w_lc, w_lcR, w_lc2, w_gen, w_frz, wi_rng1, wi_rng2, wi_zip, wi_zipS, wi_enm, ws_tp, ws_par, ws_setI, nxQ_nx, nxQ_rt, nxQ_bk, nxQ_ct, brQ_t, brQ_f, alQ_s, wp_ok, List.getElem?_cons_zero, List.getElem?_cons_succ, List.set_cons_zero, List.set_cons_succ, List.length_cons, List.length_nil, List.map_cons, List.map_nil, List.cons_append, List.nil_append, List.replicate_succ, List.replicate_zero, Bi.f, allD, Option.map_some, wb_add, wb_sub, wb_mul, wb_mod, wb_fdiv, tru_b, tru_i, cb_le, cb_lt, cb_ge, cb_gt, cb_eq, cb_ne, wc_of, brQ_b, if_true, if_false, Bool.false_eq_true, ft_l, ft_t, fl_l, fl_t, fi_i, ty_t, ty_l, ty_i, ty_b, w_truncF, ix_t0, ix_t1, ix_t2, ix_t3, isi_tt, isi_lt, isi_it, isi_ii, isi_bi, isi_bb, isi_ib, w_dct, wv_nil, wv_cons, w_app, w_rem, mQ_r, Nat.reduceAdd, Nat.zero_add, Nat.reduceMul, Nat.reduceSub, Int.reduceAdd, Int.reduceSub, Int.reduceMul, Int.reduceLT, Int.reduceLE, Int.reduceEq, Int.reduceBEq, Int.reduceNeg, Int.reduceToNat, Int.cast_ofNat_Int, decide_true, decide_false, Bool.not_true, Bool.not_false, beq_self_eq_true, Bool.true_and, Bool.and_true, true_and, and_true]
      refine wp_of_ex (any_gate_so 6 b4 _ [] 3 hb4 (by omega) (by decide) (by decide)) fun u hu => ?_
      obtain ⟨⟨g, gv⟩, b5⟩ := u
      obtain ⟨u1, u2, hb5⟩ := hu
      dsimp only at u1 u2 hb5 ⊢
      simp only [w_var, w_cst, w_gl, w_bin, w_neg, w_cmp, w_ix, w_call, w_bi, w_nil, w_cons, ws_nil, ws_cons, ws_pass, ws_doc, ws_ret, ws_retN, ws_expr, ws_set, ws_if, ws_for, wi_seq, ws_brk, ws_cont, w_not, w_isN, w_ntN, wq_and, wq_or, w_ife, w_chn, w_tup, w_lst, w_lstR, w_sl, wo_no, wo_yes, w_isi, w_lc, w_lcR, w_lc2, w_gen, w_frz, wi_rng1, wi_rng2, wi_zip, wi_zipS, wi_enm, ws_tp, ws_par, ws_setI, nxQ_nx, nxQ_rt, nxQ_bk, nxQ_ct, brQ_t, brQ_f, alQ_s, wp_ok, List.getElem?_cons_zero, List.getElem?_cons_succ, List.set_cons_zero, List.set_cons_succ, List.length_cons, List.length_nil, List.map_cons, List.map_nil, List.cons_append, List.nil_append, List.replicate_succ, List.replicate_zero, Bi.f, allD, Option.map_some, wb_add, wb_sub, wb_mul, wb_mod, wb_fdiv, tru_b, tru_i, cb_le, cb_lt, cb_ge, cb_gt, cb_eq, cb_ne, wc_of, brQ_b, if_true, if_false, Bool.false_eq_true, ft_l, ft_t, fl_l, fl_t, fi_i, ty_t, ty_l, ty_i, ty_b, w_truncF, ix_t0, ix_t1, ix_t2, ix_t3, isi_tt, isi_lt, isi_it, isi_ii, isi_bi, isi_bb, isi_ib, w_dct, wv_nil, wv_cons, w_app, w_rem, mQ_r, Nat.reduceAdd, Nat.zero_add, Nat.reduceMul, Nat.reduceSub, Int.reduceAdd, Int.reduceSub, Int.reduceMul, Int.reduceLT, Int.reduceLE, Int.reduceEq, Int.reduceBEq, Int.reduceNeg, Int.reduceToNat, Int.cast_ofNat_Int, decide_true, decide_false, Bool.not_true, Bool.not_false, beq_self_eq_true, Bool.true_and, Bool.and_true, true_and, and_true, kn _ u1 u2, ka _ u1 u2, hmul, lt]
      exact ⟨b5, _, _, _, _, _, _, _, _, _, _, _, hb5.mono (by omega), rfl, rfl⟩
    | true =>
      cases h2 : (brk 4 vals p far).isNone with
      | false =>
        simp only [w_var, w_cst, w_gl, w_bin, w_neg, w_cmp, w_ix, w_call, w_bi, w_nil, w_cons, ws_nil, ws_cons, ws_pass, ws_doc, ws_ret, ws_retN, ws_expr, ws_set, ws_if, ws_for, wi_seq, ws_brk, ws_cont, w_not, w_isN, w_ntN, wq_and, wq_or, w_ife, w_chn, w_tup, w_lst, w_lstR, w_sl, wo_no, wo_yes, w_isi, w_lc, w_lcR, w_lc2, w_gen, w_frz, wi_rng1, wi_rng2, wi_zip, wi_zipS, wi_enm, ws_tp, ws_par, ws_setI, nxQ_nx, nxQ_rt, nxQ_bk, nxQ_ct, brQ_t, brQ_f, alQ_s, wp_ok, List.getElem?_cons_zero, List.getElem?_cons_succ, List.set_cons_zero, List.set_cons_succ, List.length_cons, List.length_nil, List.map_cons, List.map_nil, List.cons_append, List.nil_append, List.replicate_succ, List.replicate_zero, Bi.f, allD, Option.map_some, wb_add, wb_sub, wb_mul, wb_mod, wb_fdiv, tru_b, tru_i, cb_le, cb_lt, cb_ge, cb_gt, cb_eq, cb_ne, wc_of, brQ_b, if_true, if_false, Bool.false_eq_true, ft_l, ft_t, fl_l, fl_t, fi_i, ty_t, ty_l, ty_i, ty_b, w_truncF, ix_t0, ix_t1, ix_t2, ix_t3, isi_tt, isi_lt, isi_it, isi_ii, isi_bi, isi_bb, isi_ib, w_dct, wv_nil, wv_cons, w_app, w_rem, mQ_r, Nat.reduceAdd, Nat.zero_add, Nat.reduceMul, Nat.reduceSub, Int.reduceAdd, Int.reduceSub, Int.reduceMul, Int.reduceLT, Int.reduceLE, Int.reduceEq, Int.reduceBEq, Int.reduceNeg, Int.reduceToNat, Int.cast_ofNat_Int, decide_true, decide_false, Bool.not_true, Bool.not_false, beq_self_eq_true, Bool.true_and, Bool.and_true, true_and, and_true]
        refine wp_of_ex (any_gate_so 6 b4 _ [] 3 hb4 (by omega) (by decide) (by decide)) fun u hu => ?_
        obtain ⟨⟨g, gv⟩, b5⟩ := u
        obtain ⟨u1, u2, hb5⟩ := hu
        dsimp only at u1 u2 hb5 ⊢
        simp only [w_var, w_cst, w_gl, w_bin, w_neg, w_cmp, w_ix, w_call, w_bi, w_nil, w_cons, ws_nil, ws_cons, ws_pass, ws_doc, ws_ret, ws_retN, ws_expr, ws_set, ws_if, ws_for, wi_seq, ws_brk, ws_cont, w_not, w_isN, w_ntN, wq_and, wq_or, w_ife, w_chn, w_tup, w_lst, w_lstR, w_sl, wo_no, wo_yes, w_isi, w_lc, w_lcR, w_lc2, w_gen, w_frz, wi_rng1, wi_rng2, wi_zip, wi_zipS, wi_enm, ws_tp, ws_par, ws_setI, nxQ_nx, nxQ_rt, nxQ_bk, nxQ_ct, brQ_t, brQ_f, alQ_s, wp_ok, List.getElem?_cons_zero, List.getElem?_cons_succ, List.set_cons_zero, List.set_cons_succ, List.length_cons, List.length_nil, List.map_cons, List.map_nil, List.cons_append, List.nil_append, List.replicate_succ, List.replicate_zero, Bi.f, allD, Option.map_some, wb_add, wb_sub, wb_mul, wb_mod, wb_fdiv, tru_b, tru_i, cb_le, cb_lt, cb_ge, cb_gt, cb_eq, cb_ne, wc_of, brQ_b, if_true, if_false, Bool.false_eq_true, ft_l, ft_t, fl_l, fl_t, fi_i, ty_t, ty_l, ty_i, ty_b, w_truncF, ix_t0, ix_t1, ix_t2, ix_t3, isi_tt, isi_lt, isi_it, isi_ii, isi_bi, isi_bb, isi_ib, w_dct, wv_nil, wv_cons, w_app, w_rem, mQ_r, Nat.reduceAdd, Nat.zero_add, Nat.reduceMul, Nat.reduceSub, Int.reduceAdd, Int.reduceSub, Int.reduceMul, Int.reduceLT, Int.reduceLE, Int.reduceEq, Int.reduceBEq, Int.reduceNeg, Int.reduceToNat, Int.cast_ofNat_Int, decide_true, decide_false, Bool.not_true, Bool.not_false, beq_self_eq_true, Bool.true_and, Bool.and_true, true_and, and_true, kn _ u1 u2, ka _ u1 u2, hmul, lt]
        exact ⟨b5, _, _, _, _, _, _, _, _, _, _, _, hb5.mono (by omega), rfl, rfl⟩
      | true =>
        simp only [hkk h1 h2, w_var, w_cst, w_gl, w_bin, w_neg, w_cmp, w_ix, w_call, w_bi, w_nil, w_cons, ws_nil, ws_cons, ws_pass, ws_doc, ws_ret, ws_retN, ws_expr, ws_set, ws_if, ws_for, wi_seq, ws_brk, ws_cont, w_not, w_isN, w_ntN, wq_and, wq_or, w_ife, w_chn, w_tup, w_lst, w_lstR, w_sl, wo_no, wo_yes, w_isi, w_lc, w_lcR, w_lc2, w_gen, w_frz, wi_rng1, wi_rng2, wi_zip, wi_zipS, wi_enm, ws_tp, ws_par, ws_setI, nxQ_nx, nxQ_rt, nxQ_bk, nxQ_ct, brQ_t, brQ_f, alQ_s, wp_ok, List.getElem?_cons_zero, List.getElem?_cons_succ, List.set_cons_zero, List.set_cons_succ, List.length_cons, List.length_nil, List.map_cons, List.map_nil, List.cons_append, List.nil_append, List.replicate_succ, List.replicate_zero, Bi.f, allD, Option.map_some, wb_add, wb_sub, wb_mul, wb_mod, wb_fdiv, tru_b, tru_i, cb_le, cb_lt, cb_ge, cb_gt, cb_eq, cb_ne, wc_of, brQ_b, if_true, if_false, Bool.false_eq_true, ft_l, ft_t, fl_l, fl_t, fi_i, ty_t, ty_l, ty_i, ty_b, w_truncF, ix_t0, ix_t1, ix_t2, ix_t3, isi_tt, isi_lt, isi_it, isi_ii, isi_bi, isi_bb, isi_ib, w_dct, wv_nil, wv_cons, w_app, w_rem, mQ_r, Nat.reduceAdd, Nat.zero_add, Nat.reduceMul, Nat.reduceSub, Int.reduceAdd, Int.reduceSub, Int.reduceMul, Int.reduceLT, Int.reduceLE, Int.reduceEq, Int.reduceBEq, Int.reduceNeg, Int.reduceToNat, Int.cast_ofNat_Int, decide_true, decide_false, Bool.not_true, Bool.not_false, beq_self_eq_true, Bool.true_and, Bool.and_true, true_and, and_true]
        refine wp_of_ex (any_gate_so 6 b4 _ [] 3 hb4 (by omega) (by decide) (by decide)) fun u hu => ?_
        obtain ⟨⟨g, gv⟩, b5⟩ := u
        obtain ⟨u1, u2, hb5⟩ := hu
        dsimp only at u1 u2 hb5 ⊢
        simp only [w_var, w_cst, w_gl, w_bin, w_neg, w_cmp, w_ix, w_call, w_bi, w_nil, w_cons, ws_nil, ws_cons, ws_pass, ws_doc, ws_ret, ws_retN, ws_expr, ws_set, ws_if, ws_for, wi_seq, ws_brk, ws_cont, w_not, w_isN, w_ntN, wq_and, wq_or, w_ife, w_chn, w_tup, w_lst, w_lstR, w_sl, wo_no, wo_yes, w_isi, w_lc, w_lcR, w_lc2, w_gen, w_frz, wi_rng1, wi_rng2, wi_zip, wi_zipS, wi_enm, ws_tp, ws_par, ws_setI, nxQ_nx, nxQ_rt, nxQ_bk, nxQ_ct, brQ_t, brQ_f, alQ_s, wp_ok, List.getElem?_cons_zero, List.getElem?_cons_succ, List.set_cons_zero, List.set_cons_succ, List.length_cons, List.length_nil, List.map_cons, List.map_nil, List.cons_append, List.nil_append, List.replicate_succ, List.replicate_zero, Bi.f, allD, Option.map_some, wb_add, wb_sub, wb_mul, wb_mod, wb_fdiv, tru_b, tru_i, cb_le, cb_lt, cb_ge, cb_gt, cb_eq, cb_ne, wc_of, brQ_b, if_true, if_false, Bool.false_eq_true, ft_l, ft_t, fl_l, fl_t, fi_i, ty_t, ty_l, ty_i, ty_b, w_truncF, ix_t0, ix_t1, ix_t2, ix_t3, isi_tt, isi_lt, isi_it, isi_ii, isi_bi, isi_bb, isi_ib, w_dct, wv_nil, wv_cons, w_app, w_rem, mQ_r, Nat.reduceAdd, Nat.zero_add, Nat.reduceMul, Nat.reduceSub, Int.reduceAdd, Int.reduceSub, Int.reduceMul, Int.reduceLT, Int.reduceLE, Int.reduceEq, Int.reduceBEq, Int.reduceNeg, Int.reduceToNat, Int.cast_ofNat_Int, decide_true, decide_false, Bool.not_true, Bool.not_false, beq_self_eq_true, Bool.true_and, Bool.and_true, true_and, and_true, kn _ u1 u2, ka _ u1 u2, hmul, lt]
        exact ⟨b5, _, _, _, _, _, _, _, _, _, _, _, hb5.mono (by omega), rfl, rfl⟩
  · obtain ⟨b, a2, a3, a4, a5, a6, a7, a8, a9, a10, a11, a12, hb, rfl, rfl⟩ := h
    simp only [w_var, w_cst, w_gl, w_bin, w_neg, w_cmp, w_ix, w_call, w_bi, w_nil, w_cons, ws_nil, ws_cons, ws_pass, ws_doc, ws_ret, ws_retN, ws_expr, ws_set, ws_if, ws_for, wi_seq, ws_brk, ws_cont, w_not, w_isN, w_ntN, wq_and, wq_or, w_ife, w_chn, w_tup, w_lst, w_lstR, w_sl, wo_no, wo_yes, w_isi, w_lc, w_lcR, w_lc2, w_gen, w_frz, wi_rng1, wi_rng2, wi_zip, wi_zipS, wi_enm, ws_tp, ws_par, ws_setI, nxQ_nx, nxQ_rt, nxQ_bk, nxQ_ct, brQ_t, brQ_f, alQ_s, wp_ok, List.getElem?_cons_zero, List.getElem?_cons_succ, List.set_cons_zero, List.set_cons_succ, List.length_cons, List.length_nil, List.map_cons, List.map_nil, List.cons_append, List.nil_append, List.replicate_succ, List.replicate_zero, Bi.f, allD, Option.map_some, wb_add, wb_sub, wb_mul, wb_mod, wb_fdiv, tru_b, tru_i, cb_le, cb_lt, cb_ge, cb_gt, cb_eq, cb_ne, wc_of, brQ_b, if_true, if_false, Bool.false_eq_true, ft_l, ft_t, fl_l, fl_t, fi_i, ty_t, ty_l, ty_i, ty_b, w_truncF, ix_t0, ix_t1, ix_t2, ix_t3, isi_tt, isi_lt, isi_it, isi_ii, isi_bi, isi_bb, isi_ib, w_dct, wv_nil, wv_cons, w_app, w_rem, mQ_r, Nat.reduceAdd, Nat.zero_add, Nat.reduceMul, Nat.reduceSub, Int.reduceAdd, Int.reduceSub, Int.reduceMul, Int.reduceLT, Int.reduceLE, Int.reduceEq, Int.reduceBEq, Int.reduceNeg, Int.reduceToNat, Int.cast_ofNat_Int, decide_true, decide_false, Bool.not_true, Bool.not_false, beq_self_eq_true, Bool.true_and, Bool.and_true, true_and, and_true]

theorem pure_law (ns : List Int) (h : ns.length ≤ 63) : ∃ S, callN ds 12 0 [.r 0] (script0 ns) = .ok (.d (.bool true)) S := by
  obtain ⟨x, S, e, hx⟩ := wp_eq (law_so ns h)
  exact ⟨S, by rw [e, hx]⟩

theorem gks : gt.all (gkB rs) = true := by decide +kernel
theorem chks : chkAll gt ds rs = true := by decide +kernel
/-! ### the head -/
abbrev Rw : PySem.W.OpenRow := PySem.W.OpenLaw.row PySem.Challenge.rw_sixgates_k03_ties_kept_by_gates_of_four
abbrev hk : PySem.W.Hook := He.hookX 4 (gt.flatMap faOf) (rs.map DRow.toD) [] (tfOf rs) (exOf gt)
def ob (s : PySem.W.SharedT) : He.AlX := He.obsX 4 (gt.flatMap faOf) (rs.map DRow.toD) [] (tfOf rs) (exOf gt) (HandSHeadRun.getT s)
theorem ob_eq (s : PySem.W.SharedT) : ob s = hk.obs s.abs := He.obsX_eq (HandSHeadRun.getT_eq s)
def loose_0 : List Str := ["GateError", "BadGate", "BadTie", "is_whole", "is_number", "is_value", "is_values", "MOST_INPUTS", "number_of", "wrong_gate", "need_gate", "worth_so", "put_so", "MOST_PLACES", "wrong_tie", "need_tie", "choices_of", "broken_so", "keeps_so", "keeps", "broken_rows", "_law_begin", "_law_mixed", "_law_draw", "_law_of", "_law_shuffled", "_law_rows", "_law_values", "_law_gate", "_law_told_gates"]
def loose_1 : List Str := ["_law_any_gate", "_law_tie", "_law_like", "_law_worth", "_law_put", "_law_choices", "_law_broken"]
def loose : List Str := loose_0 ++ (loose_1)
theorem run (w : World) : HandSHeadRun.RunEq Rw (PySem.W.view Rw.prog [42]) hk ob 6000 loose w := by
  intro os
  kernel_rfl

open PySem PySem.W PySem.Calls PyProof.Rows in
theorem holds_ : PySem.Challenge.rw_sixgates_k03_ties_kept_by_gates_of_four.Holds := by
  w_on; o_law
  refine HandSHeadRun.head_any (r := OpenLaw.row PySem.Challenge.rw_sixgates_k03_ties_kept_by_gates_of_four) (q := view (OpenLaw.row PySem.Challenge.rw_sixgates_k03_ties_kept_by_gates_of_four).prog [42]) (H := hk) (ob := ob) (M := 6000) (loose := loose) (d := HandSHeadRun.topDef (OpenLaw.row PySem.Challenge.rw_sixgates_k03_ties_kept_by_gates_of_four).prog 42) (kwd := []) ob_eq
    (by kernel_rfl) (fun s => by kernel_rfl) run (by kernel_rfl) (by kernel_rfl) (by kernel_rfl) (by rfl) (by first | assumption | decide +kernel) (by decide +kernel) ⟨rfl, rfl, rfl, rfl, rfl, by decide +kernel⟩ ?hw ?hc
  case hw => w_witness2
  case hc => exact pb_law (l := PySem.Challenge.rw_sixgates_k03_ties_kept_by_gates_of_four) (gt := gt) (ds := ds) (rs := rs) (n := 63) (k := 12) (i := 0) (r := r_0) rfl (by decide) (by kernel_rfl) (by decide +kernel) (by kernel_rfl) rfl rfl ⟨0, rfl⟩ gks chks bnds fun ns h1 h2 => pure_law ns h1

end K03
theorem PySem.Challenge.cw_sixgates_k03_ties_kept_by_gates_of_four_holds : PySem.Challenge.rw_sixgates_k03_ties_kept_by_gates_of_four.Holds := by
  exact K03.holds_
