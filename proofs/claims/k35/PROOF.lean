import PyProof.Rows.All
import PySem.Challenge.RW_everyscale_k35_numbers_that_claims_hold
import Wide.All
import OpenK.AllK
import Wide.FinOn
import HandS.ForMost
import HandS.ForExc
import HandS.Wide
import HandS.WideBits
import HandS.Walk
import HandS.Style
import HandS.TupAny
import HandS.TupMul
import HandS.IsInst
import HandS.Zip
import HandS.Deep
import HandS.NoneIn
import HandS.More
import HandS.Defaults
import HandS.Dict
import HandS.Head0
import HandS.Head1
import HandS.Head2
import HandS.HeadEnd
import HandS.HeadHook1
import HandS.HeadHook2
import HandS.SortInts
import HandS.Sort
import HandS.Conv
import HandS.Text
import HandS.RaiseMore
import KE.KSortTupAny
import HandS.TupSets
import KE.KSortTupG
set_option Elab.async false
set_option linter.all false
set_option maxRecDepth 100000
set_option maxHeartbeats 4000000
/-! A layer of my own over the hand layer: values as data (tuples and unchanged lists as trees, changing objects as places of a store), readings as programs of a small monad. -/
namespace Mi
open PySem PySem.Spec PyProof.Rows L2

inductive D where
  | non | bl (b : Bool) | int (i : Int) | str (x : Str)
  | tup (l : List D) | lst (l : List D) | wls (l : List D)
  | loc (n : Nat) | gl (a : Addr) | ty (n : String)
  | dic (ks : List Key) (l : List D)
instance : Inhabited D := ⟨.non⟩
inductive O where
  | lst (l : List D) | dct (l : List (Key × D)) | dcT (l : List (List Key × D)) | ins (C : Addr) (l : List (Str × D))
instance : Inhabited O := ⟨.lst []⟩
abbrev Sto := List O
inductive R (α : Type) where
  | ok (a : α) (S : Sto) | exc (C : Addr) (fs : List (Str × D)) (S : Sto) | bad
def R.bind {α β : Type} : R α → (α → Sto → R β) → R β
  | .ok a S, f => f a S
  | .exc C fs S, _ => .exc C fs S
  | .bad, _ => .bad
@[simp] theorem R.bind_ok {α β : Type} {a : α} {S : Sto} {f : α → Sto → R β} : (R.ok a S).bind f = f a S := rfl
@[simp] theorem R.bind_exc {α β : Type} {C fs S} {f : α → Sto → R β} : (R.exc C fs S : R α).bind f = .exc C fs S := rfl
@[simp] theorem R.bind_bad {α β : Type} {f : α → Sto → R β} : (R.bad : R α).bind f = .bad := rfl
def R.of {α : Type} : Option α → Sto → R α
  | some a, S => .ok a S
  | none, _ => .bad
@[simp] theorem R.of_some {α : Type} {a : α} {S : Sto} : R.of (some a) S = .ok a S := rfl
@[simp] theorem R.of_none {α : Type} {S : Sto} : R.of (none : Option α) S = .bad := rfl
abbrev En := List (Option D)
/-- the places of the store; pv: lists that are just being built -/
structure Rho where
  m : Nat → Option Addr
  pv : Addr → Prop
def Rho.no (ρ : Rho) (a : Addr) : Prop := (∀ n, ρ.m n ≠ some a) ∧ ¬ ρ.pv a

/-! ### what a datum stands for -/
def WLs (K : PySem.W.Frag) (H : Hp) (a : Addr) (xs : List V) : Prop :=
  (∃ o, H a = some (.frz o (.lst xs))) ∨ ∃ (o : Obj) (its : Array Value) (n : Nat), K.lookup a = some o ∧ o.cls = .type "list" ∧ o.dict = none ∧ o.data = .seq its n ∧ its.size ≤ sizeLine ∧ Vals xs its.toList
theorem WLs.sq {K : PySem.W.Frag} {H : Hp} {a : Addr} {xs : List V} (h : WLs K H a xs) : SqL K H a xs := by
  rcases h with h | h
  · exact .inl (.inr h)
  · exact .inr h
def TLs (K : PySem.W.Frag) (H : Hp) (a : Addr) (xs : List V) : Prop :=
  H a = some (.tup xs) ∨ ∃ (o : Obj) (its : Array Value) (n : Nat), K.lookup a = some o ∧ o.cls = .type "tuple" ∧ o.data = .seq its n ∧ its.size ≤ sizeLine ∧ Vals xs its.toList
theorem TLs.sq {K : PySem.W.Frag} {H : Hp} {a : Addr} {xs : List V} (h : TLs K H a xs) : SqT K H a xs := by
  rcases h with h | h
  · exact .inl (.inl h)
  · exact .inr h
mutual
def Rp (K : PySem.W.Frag) (ρ : Rho) (H : Hp) : D → V → Prop
  | .non, v => v = .non
  | .bl b, v => v = .bl b
  | .int i, v => v = .int i
  | .str x, v => v = .str x
  | .tup l, v => ∃ p vs, v = .ref p ∧ TLs K H p vs ∧ Rps K ρ H l vs
  | .lst l, v => ∃ p vs, v = .ref p ∧ H p = some (.lst vs) ∧ ρ.no p ∧ Rps K ρ H l vs
  | .wls l, v => ∃ p vs, v = .ref p ∧ WLs K H p vs ∧ Rps K ρ H l vs
  | .loc n, v => ∃ a, v = .ref a ∧ ρ.m n = some a
  | .gl a, v => v = .ref a
  | .ty n, v => v = .ty n
  | .dic ks l, v => ∃ p vs, v = .ref p ∧ H p = some (.dK (ks.zip vs)) ∧ ks.length = l.length ∧ ρ.no p ∧ Rps K ρ H l vs
def Rps (K : PySem.W.Frag) (ρ : Rho) (H : Hp) : List D → List V → Prop
  | [], vs => vs = []
  | d :: ds, vs => ∃ v r, vs = v :: r ∧ Rp K ρ H d v ∧ Rps K ρ H ds r
end
/-- what may change -/
def Mk : HO → Prop
  | .lst _ => True
  | .dK _ => True
  | .dT _ => True
  | .ins _ _ _ => True
  | .set _ _ => True
  | _ => False
def KVs {κ : Type} (K : PySem.W.Frag) (ρ : Rho) (H : Hp) : List (κ × D) → List (κ × V) → Prop
  | [], vs => vs = []
  | d :: ds, vs => ∃ v r, vs = (d.1, v) :: r ∧ Rp K ρ H d.2 v ∧ KVs K ρ H ds r
def OOk (K : PySem.W.Frag) (ρ : Rho) (H : Hp) (a : Addr) : O → Prop
  | .lst l => ∃ vs, H a = some (.lst vs) ∧ Rps K ρ H l vs
  | .dct l => ∃ vs, H a = some (.dK vs) ∧ KVs K ρ H l vs
  | .dcT l => ∃ vs, H a = some (.dT vs) ∧ KVs K ρ H l vs
  | .ins C l => ∃ dx vs, H a = some (.ins C dx vs) ∧ KVs K ρ H l vs
structure SOk (K : PySem.W.Frag) (ρ : Rho) (S : Sto) (H : Hp) : Prop where
  inj : ∀ n m a, ρ.m n = some a → ρ.m m = some a → n = m
  dom : ∀ n a, ρ.m n = some a → n < S.length
  obj : ∀ n o, S[n]? = some o → ∃ a, ρ.m n = some a ∧ OOk K ρ H a o
  prv : ∀ a, ρ.pv a → (∃ o, H a = some o ∧ Mk o) ∧ ∀ n, ρ.m n ≠ some a
structure Stp (ρ ρ' : Rho) (H H' : Hp) : Prop where
  up : ∀ n a, ρ.m n = some a → ρ'.m n = some a
  new : ∀ n a, ρ'.m n = some a → ρ.m n = some a ∨ H a = none
  pv : ∀ a, ρ'.pv a → ρ.pv a ∨ H a = none
  pvu : ∀ a, ρ.pv a → ρ'.pv a
  keep : ∀ a o, H a = some o → (∀ n, ρ.m n ≠ some a) → H' a = some o
  live : ∀ a, H' a = none → H a = none
structure EOk (K : PySem.W.Frag) (ρ : Rho) (H : Hp) (env : En) (σ : List (Option V)) : Prop where
  len : env.length = σ.length
  val : ∀ (i : Nat) (d : D), env[i]? = some (some d) → ∃ v : V, σ[i]? = some (some v) ∧ Rp K ρ H d v
section
variable {K : PySem.W.Frag} {ρ ρ' ρ'' : Rho} {S S' : Sto} {H H' H'' : Hp} {env : En} {σ : L2.St}
theorem SOk.mk' (h : SOk K ρ S H) {n : Nat} {a : Addr} (e : ρ.m n = some a) : ∃ o, H a = some o ∧ Mk o := by
  have hl := h.dom n a e
  obtain ⟨b, hb, ok⟩ := h.obj n S[n] (by simp [hl])
  rw [e] at hb; cases hb
  generalize S[n] = o at ok
  cases o with
  | lst l => obtain ⟨vs, h1, _⟩ := ok; exact ⟨_, h1, trivial⟩
  | dct l => obtain ⟨vs, h1, _⟩ := ok; exact ⟨_, h1, trivial⟩
  | dcT l => obtain ⟨vs, h1, _⟩ := ok; exact ⟨_, h1, trivial⟩
  | ins C l => obtain ⟨dx, vs, h1, _⟩ := ok; exact ⟨_, h1, trivial⟩
theorem SOk.get (h : SOk K ρ S H) {n : Nat} {a : Addr} (e : ρ.m n = some a) : ∃ o, S[n]? = some o ∧ OOk K ρ H a o := by
  have hl := h.dom n a e
  obtain ⟨b, hb, ok⟩ := h.obj n S[n] (by simp [hl])
  rw [e] at hb; cases hb
  exact ⟨_, by simp [hl], ok⟩
theorem Stp.refl : Stp ρ ρ H H := ⟨fun _ _ h => h, fun _ _ h => .inl h, fun _ h => .inl h, fun _ h => h, fun _ _ h _ => h, fun _ h => h⟩
theorem Stp.trans (a : Stp ρ ρ' H H') (b : Stp ρ' ρ'' H' H'') : Stp ρ ρ'' H H'' where
  up n x h := b.up n x (a.up n x h)
  new n x h := by
    rcases b.new n x h with h | h
    · exact a.new n x h
    · exact .inr (a.live x h)
  pv x h := by
    rcases b.pv x h with h | h
    · exact a.pv x h
    · exact .inr (a.live x h)
  pvu x h := b.pvu x (a.pvu x h)
  keep x o h hn := by
    have h1 := a.keep x o h hn
    refine b.keep x o h1 fun n z => ?_
    rcases a.new n x z with q | q
    · exact hn n q
    · rw [h] at q; cases q
  live x h := a.live x (b.live x h)
theorem upd_live {p : Addr} {o : HO} {a : Addr} (h : upd H p o a = none) : H a = none := by
  by_cases e : a = p
  · subst e; rw [upd_same] at h; cases h
  · rw [upd_ne e] at h; exact h
/-- a new object that is not tracked as one that changes -/
theorem Stp.alloc {p : Addr} {o : HO} (hp : H p = none) : Stp ρ ρ H (upd H p o) where
  up _ _ h := h
  new _ _ h := .inl h
  pv _ h := .inl h
  pvu _ h := h
  keep a u h _ := by rw [upd_ne (ne_of_none h hp)]; exact h
  live a h := upd_live h
/-- what cannot change is none of the changing objects -/
theorem SOk.no (h : SOk K ρ S H) {b : Addr} {o : HO} (hb : H b = some o) (hm : ¬ Mk o) : ρ.no b := by
  refine ⟨fun n e => ?_, fun e => ?_⟩
  · obtain ⟨u, h1, h2⟩ := h.mk' e
    rw [hb] at h1; cases h1; exact hm h2
  · obtain ⟨⟨u, h1, h2⟩, _⟩ := h.prv b e
    rw [hb] at h1; cases h1; exact hm h2
theorem SOk.noN (h : SOk K ρ S H) {b : Addr} (hb : H b = none) : ρ.no b := by
  refine ⟨fun n e => ?_, fun e => ?_⟩
  · obtain ⟨u, h1, h2⟩ := h.mk' e
    rw [hb] at h1; cases h1
  · obtain ⟨⟨u, h1, h2⟩, _⟩ := h.prv b e
    rw [hb] at h1; cases h1
theorem Stp.tls {p : Addr} {vs : List V} (hS : SOk K ρ S H) (st : Stp ρ ρ' H H') (h : TLs K H p vs) : TLs K H' p vs := by
  rcases h with h | h
  · exact .inl (st.keep _ _ h (hS.no h (fun z => z)).1)
  · exact .inr h
theorem Stp.wls {p : Addr} {vs : List V} (hS : SOk K ρ S H) (st : Stp ρ ρ' H H') (h : WLs K H p vs) : WLs K H' p vs := by
  rcases h with ⟨o, h⟩ | h
  · exact .inl ⟨o, st.keep _ _ h (hS.no h (fun z => z)).1⟩
  · exact .inr h
theorem Stp.no {p : Addr} {o : HO} (st : Stp ρ ρ' H H') (hp : H p = some o) (h : ρ.no p) : ρ'.no p := by
  refine ⟨fun n z => ?_, fun z => ?_⟩
  · rcases st.new n p z with q | q
    · exact h.1 n q
    · rw [hp] at q; cases q
  · rcases st.pv p z with q | q
    · exact h.2 q
    · rw [hp] at q; cases q
mutual
theorem Rp.step (hS : SOk K ρ S H) (st : Stp ρ ρ' H H') : ∀ (d : D) (v : V), Rp K ρ H d v → Rp K ρ' H' d v
  | .non, v, h => h
  | .bl b, v, h => h
  | .int i, v, h => h
  | .str x, v, h => h
  | .tup l, v, h => by
    obtain ⟨p, vs, e, h1, h2⟩ := h
    exact ⟨p, vs, e, st.tls hS h1, Rps.step hS st l vs h2⟩
  | .lst l, v, h => by
    obtain ⟨p, vs, e, h1, h2, h3⟩ := h
    exact ⟨p, vs, e, st.keep _ _ h1 h2.1, st.no h1 h2, Rps.step hS st l vs h3⟩
  | .wls l, v, h => by
    obtain ⟨p, vs, e, h1, h2⟩ := h
    exact ⟨p, vs, e, st.wls hS h1, Rps.step hS st l vs h2⟩
  | .loc n, v, h => by
    obtain ⟨a, e, h1⟩ := h
    exact ⟨a, e, st.up n a h1⟩
  | .gl a, v, h => h
  | .ty n, v, h => h
  | .dic ks l, v, h => by
    obtain ⟨p, vs, e, h1, hl, h2, h3⟩ := h
    exact ⟨p, vs, e, st.keep _ _ h1 h2.1, hl, st.no h1 h2, Rps.step hS st l vs h3⟩
theorem Rps.step (hS : SOk K ρ S H) (st : Stp ρ ρ' H H') : ∀ (ds : List D) (vs : List V), Rps K ρ H ds vs → Rps K ρ' H' ds vs
  | [], vs, h => h
  | d :: ds, vs, h => by
    obtain ⟨v, r, e, h1, h2⟩ := h
    exact ⟨v, r, e, Rp.step hS st d v h1, Rps.step hS st ds r h2⟩
end
theorem EOk.step (hS : SOk K ρ S H) (st : Stp ρ ρ' H H') (h : EOk K ρ H env σ) : EOk K ρ' H' env σ :=
  ⟨h.len, fun i d e => by
    obtain ⟨v, h1, h2⟩ := h.val i d e
    exact ⟨v, h1, Rp.step hS st d v h2⟩⟩
end
/-! ### ends -/
abbrev Rel (α β : Type) := Rho → Hp → α → β → Prop
def Post {α β : Type} (K : PySem.W.Frag) (W : WX) (rel : Rel α β) (ρ : Rho) (H : Hp) (σ : L2.St) (r : R α) (Q : β → Hp → Prop) : Prop :=
  match r with
  | .ok a S' => ∀ ρ' H' v, SOk K ρ' S' H' → Stp ρ ρ' H H' → rel ρ' H' a v → Q v H'
  | .exc C fs S' => ∀ ρ' H' d vs, SOk K ρ' S' H' → Stp ρ ρ' H H' → ρ'.no d → H' d = some (.xd vs) → KVs K ρ' H' fs vs → W (.ref C) (some d) σ H'
  | .bad => False
def tG {α β : Type} (K : PySem.W.Frag) (W : WX) (rel : Rel α β) (m : En → Sto → R α) : L2.St → Hp → (β → Hp → Prop) → Prop := fun σ H Q =>
  ∃ ρ S env, SOk K ρ S H ∧ EOk K ρ H env σ ∧ Post K W rel ρ H σ (m env S) Q
section
variable {K : PySem.W.Frag} {W : WX} {ρ ρ' ρ'' : Rho} {S S' : Sto} {H H' H'' : Hp} {env : En} {σ : L2.St} {α β γ δ : Type}
theorem Post.step {rel : Rel α β} {r : R α} {Q : β → Hp → Prop} (st : Stp ρ ρ' H H') (h : Post K W rel ρ H σ r Q) : Post K W rel ρ' H' σ r Q := by
  cases r with
  | ok a S1 => exact fun ρ2 H2 v h1 h2 h3 => h ρ2 H2 v h1 (st.trans h2) h3
  | exc C fs S1 => exact fun ρ2 H2 d vs h1 h2 h3 h4 h5 => h ρ2 H2 d vs h1 (st.trans h2) h3 h4 h5
  | bad => exact h
theorem Post.mono {rel : Rel α β} {r : R α} {Q Q' : β → Hp → Prop} (h : Post K W rel ρ H σ r Q) (hq : ∀ v H', Q v H' → Q' v H') : Post K W rel ρ H σ r Q' := by
  cases r with
  | ok a S1 => exact fun ρ2 H2 v h1 h2 h3 => hq _ _ (h ρ2 H2 v h1 h2 h3)
  | exc C fs S1 => exact h
  | bad => exact h
/-- one reading ahead of another one -/
theorem Post.bind {rel : Rel α β} {rel2 : Rel γ δ} {m : En → Sto → R α} {g : α → Sto → R γ} {Q : δ → Hp → Prop} (hS : SOk K ρ S H) (hE : EOk K ρ H env σ)
    (h : Post K W rel2 ρ H σ ((m env S).bind g) Q) :
    tG K W rel m σ H fun v H1 => ∃ ρ1 S1 a, SOk K ρ1 S1 H1 ∧ EOk K ρ1 H1 env σ ∧ Stp ρ ρ1 H H1 ∧ rel ρ1 H1 a v ∧ Post K W rel2 ρ1 H1 σ (g a S1) Q := by
  refine ⟨ρ, S, env, hS, hE, ?_⟩
  revert h
  generalize m env S = r
  intro h
  cases r with
  | ok a S1 => exact fun ρ2 H2 v h1 h2 h3 => ⟨ρ2, S1, a, h1, hE.step hS h2, h2, h3, h.step h2⟩
  | exc C fs S1 => exact h
  | bad => exact h
theorem tG.mono {rel : Rel α β} {m : En → Sto → R α} {Q Q' : β → Hp → Prop} (h : tG K W rel m σ H Q) (hq : ∀ v H', Q v H' → Q' v H') : tG K W rel m σ H Q' := by
  obtain ⟨ρ, S, env, h1, h2, h3⟩ := h
  exact ⟨ρ, S, env, h1, h2, h3.mono hq⟩
theorem Post.bindK {rel : Rel α β} {rel2 : Rel γ δ} {m : En → Sto → R α} {g : α → Sto → R γ} {Q : δ → Hp → Prop} {Q1 : β → Hp → Prop} (hS : SOk K ρ S H) (hE : EOk K ρ H env σ)
    (h : Post K W rel2 ρ H σ ((m env S).bind g) Q)
    (k : ∀ v H1 ρ1 S1 a, SOk K ρ1 S1 H1 → EOk K ρ1 H1 env σ → Stp ρ ρ1 H H1 → rel ρ1 H1 a v → Post K W rel2 ρ1 H1 σ (g a S1) Q → Q1 v H1) :
    tG K W rel m σ H Q1 := (Post.bind hS hE h).mono fun v H1 ⟨ρ1, S1, a, h1, h2, h3, h4, h5⟩ => k v H1 ρ1 S1 a h1 h2 h3 h4 h5
end
abbrev TM := En → Sto → R D
abbrev BM := En → Sto → R Bool
abbrev AM := En → Sto → R (List D)
def relB : Rel Bool Bool := fun _ _ b c => b = c
abbrev tE (K : PySem.W.Frag) (W : WX) (m : TM) : TE := tG K W (Rp K) m
abbrev tT (K : PySem.W.Frag) (W : WX) (m : BM) : TT := tG K W relB m
abbrev tA (K : PySem.W.Frag) (W : WX) (m : AM) : TA := tG K W (Rps K) m
structure DE (X : Cx) (W : WX) (e : Expr) (m : TM) : Prop where
  p : PE X e (tE X.K W m)
structure DT (X : Cx) (W : WX) (e : Expr) (m : BM) : Prop where
  p : PT X e (tT X.K W m)
structure DA (X : Cx) (W : WX) (es : List Expr) (m : AM) : Prop where
  p : PA X es (tA X.K W m)
theorem PE.imp {X : Cx} {e : Expr} {t t' : TE} (h : PE X e t) (i : ∀ σ H Q, t' σ H Q → t σ H Q) : PE X e t' := ⟨fun pins s σ H Q I q => h.run pins s σ H Q I (i σ H Q q)⟩
theorem PT.imp {X : Cx} {e : Expr} {t t' : TT} (h : PT X e t) (i : ∀ σ H Q, t' σ H Q → t σ H Q) : PT X e t' := ⟨fun pins s σ H Q I q => h.run pins s σ H Q I (i σ H Q q)⟩
theorem PW.imp {X : Cx} {e : Expr} {t t' : TT} (h : PW X e t) (i : ∀ σ H Q, t' σ H Q → t σ H Q) : PW X e t' := ⟨fun wh pins s σ H Q I q => h.run wh pins s σ H Q I (i σ H Q q)⟩
theorem PA.imp {X : Cx} {e : List Expr} {t t' : TA} (h : PA X e t) (i : ∀ σ H Q, t' σ H Q → t σ H Q) : PA X e t' := ⟨fun pos pins s σ H Q I q => h.run pos pins s σ H Q I (i σ H Q q)⟩
theorem PS.imp {X : Cx} {e : Stmt} {t t' : TS} (h : PS X e t) (i : ∀ D σ H, t' D σ H → t D σ H) : PS X e t' := ⟨fun pins s σ H D I q => h.run pins s σ H D I (i D σ H q)⟩
theorem PSs.imp {X : Cx} {e : List Stmt} {t t' : TS} (h : PSs X e t) (i : ∀ D σ H, t' D σ H → t D σ H) : PSs X e t' := ⟨fun pins s σ H D I q => h.run pins s σ H D I (i D σ H q)⟩

/-! ### names, constants -/
def mVar (i : Nat) : TM := fun env S => match env[i]? with
  | some (some d) => .ok d S
  | _ => .bad
def mC (d : D) : TM := fun _ S => .ok d S
section
variable {X : Cx} {W : WX} {a b c : Expr} {ma mb mc : TM} {pos : Pos}
theorem d_var {i : Nat} {x : Str} (hN : X.N[i]? = some x) (hv : Vis X.env.scope x) (hd : (x == ("__debug__" : Str)) = false := by decide) (hcd : (x == ("__classdict__" : Str)) = false := by decide) : DE X W (.Name x pos) (mVar i) := by
  refine ⟨PE.imp (pe_var hN hv hd hcd) fun σ H Q ⟨ρ, S, env, hS, hE, h⟩ => ?_⟩
  unfold mVar at h
  split at h
  · rename_i d e
    obtain ⟨v, e1, r⟩ := hE.val i d e
    exact ⟨v, e1, h ρ H v hS .refl r⟩
  · exact h.elim
theorem d_int {i : Int} {k : Nat} : DE X W (.Constant (.int i) k pos) (mC (.int i)) := ⟨PE.imp pe_int fun σ H Q ⟨ρ, S, env, hS, hE, h⟩ => h ρ H (.int i) hS .refl rfl⟩
theorem d_str {i : Str} {k : Nat} : DE X W (.Constant (.str i) k pos) (mC (.str i)) := ⟨PE.imp pe_str fun σ H Q ⟨ρ, S, env, hS, hE, h⟩ => h ρ H (.str i) hS .refl rfl⟩
theorem d_bl {i : Bool} {k : Nat} : DE X W (.Constant (.bool i) k pos) (mC (.bl i)) := ⟨PE.imp pe_bl fun σ H Q ⟨ρ, S, env, hS, hE, h⟩ => h ρ H (.bl i) hS .refl rfl⟩
theorem d_non {k : Nat} : DE X W (.Constant .none k pos) (mC .non) := ⟨PE.imp pe_non fun σ H Q ⟨ρ, S, env, hS, hE, h⟩ => h ρ H .non hS .refl rfl⟩
end

/-! ### operators, by values -/
abbrev G2 := Sto → D → D → Option D
abbrev G1 := Sto → D → Option D
def rD (K : PySem.W.Frag) (g : G2) : R2 := fun x y H Q => ∃ ρ S a b z, SOk K ρ S H ∧ Rp K ρ H a x ∧ Rp K ρ H b y ∧ g S a b = some z ∧
  ∀ ρ' H' v, SOk K ρ' S H' → Stp ρ ρ' H H' → Rp K ρ' H' z v → Q v H'
def rD1 (K : PySem.W.Frag) (g : G1) : V → Hp → VK → Prop := fun x H Q => ∃ ρ S a z, SOk K ρ S H ∧ Rp K ρ H a x ∧ g S a = some z ∧
  ∀ ρ' H' v, SOk K ρ' S H' → Stp ρ ρ' H H' → Rp K ρ' H' z v → Q v H'
def mOp (g : G2) (ma mb : TM) : TM := fun env S => (ma env S).bind fun a S1 => (mb env S1).bind fun b S2 => R.of (g S2 a b) S2
def mUn (g : G1) (ma : TM) : TM := fun env S => (ma env S).bind fun a S1 => R.of (g S1 a) S1
section
variable {X : Cx} {W : WX} {a b c : Expr} {ma mb mc : TM} {pos : Pos}
theorem of_op {K : PySem.W.Frag} {g : G2} {σ : L2.St} {H : Hp} {Q : VK} (h : tE K W (mOp g ma mb) σ H Q) : tOp (rD K g) (tE K W ma) (tE K W mb) σ H Q := by
  obtain ⟨ρ, S, env, hS, hE, h⟩ := h
  refine Post.bindK hS hE h fun x H1 ρ1 S1 d1 hS1 hE1 st1 r1 h1 => ?_
  refine Post.bindK hS1 hE1 h1 fun y H2 ρ2 S2 d2 hS2 hE2 st2 r2 h2 => ?_
  have r1' := r1.step hS1 st2
  cases e : g S2 d1 d2 with
  | none => rw [e] at h2; exact h2.elim
  | some z =>
    rw [e] at h2
    exact ⟨ρ2, S2, d1, d2, z, hS2, r1', r2, e, h2⟩
theorem of_un {K : PySem.W.Frag} {g : G1} {σ : L2.St} {H : Hp} {Q : VK} (h : tE K W (mUn g ma) σ H Q) : tUn (rD1 K g) (tE K W ma) σ H Q := by
  obtain ⟨ρ, S, env, hS, hE, h⟩ := h
  refine Post.bindK hS hE h fun x H1 ρ1 S1 d1 hS1 hE1 st1 r1 h1 => ?_
  cases e : g S1 d1 with
  | none => rw [e] at h1; exact h1.elim
  | some z =>
    rw [e] at h1
    exact ⟨ρ1, S1, d1, z, hS1, r1, e, h1⟩
theorem d_bin {op : Operator} {g : G2} (ho : OpR X (binaryOp op) (rD X.K g)) (ha : DE X W a ma) (hb : DE X W b mb) : DE X W (.BinOp a op b pos) (mOp g ma mb) :=
  ⟨PE.imp (pe_op ho ha.p hb.p) fun σ H Q h => of_op h⟩
theorem d_un {op : UnaryOp} {g : G1} (ho : UnR X (unaryOp op) (rD1 X.K g)) (ha : DE X W a ma) : DE X W (.UnaryOp op a pos) (mUn g ma) :=
  ⟨PE.imp (pe_un ho ha.p) fun σ H Q h => of_un h⟩
theorem d_cmp {op : CmpOp} {g : G2} (ho : OpR X (compareOp op) (rD X.K g)) (ha : DE X W a ma) (hb : DE X W b mb) (hm : behindInMarks op b = false) : DE X W (.Compare a [op] [b] pos) (mOp g ma mb) :=
  ⟨PE.imp (pe_cmpR ho ha.p hb.p hm) fun σ H Q h => of_op h⟩
end
end Mi

namespace Mi
open PySem PySem.Spec PyProof.Rows L2
section
variable {K : PySem.W.Frag} {ρ ρ' : Rho} {S S' : Sto} {H H' : Hp}
theorem Rps.length : ∀ {ds : List D} {vs : List V}, Rps K ρ H ds vs → ds.length = vs.length
  | [], _, h => by cases h; rfl
  | d :: ds, _, h => by obtain ⟨v, r, rfl, _, h2⟩ := h; simp [Rps.length h2]
theorem Rps.get : ∀ {ds : List D} {vs : List V} {i : Nat} {d : D}, Rps K ρ H ds vs → ds[i]? = some d → ∃ v, vs[i]? = some v ∧ Rp K ρ H d v
  | [], _, _, _, _, e => by simp at e
  | d :: ds, _, 0, x, h, e => by obtain ⟨v, r, rfl, h1, _⟩ := h; simp at e; subst e; exact ⟨v, rfl, h1⟩
  | d :: ds, _, i + 1, x, h, e => by
    obtain ⟨v, r, rfl, _, h2⟩ := h
    obtain ⟨w, h3, h4⟩ := Rps.get (i := i) h2 (by simpa using e)
    exact ⟨w, by simpa using h3, h4⟩
theorem Rps.append : ∀ {ds es : List D} {vs ws : List V}, Rps K ρ H ds vs → Rps K ρ H es ws → Rps K ρ H (ds ++ es) (vs ++ ws)
  | [], _, _, _, h, k => by cases h; exact k
  | d :: ds, _, _, _, h, k => by obtain ⟨v, r, rfl, h1, h2⟩ := h; exact ⟨v, _, rfl, h1, Rps.append h2 k⟩
theorem Rps.drop : ∀ {ds : List D} {vs : List V} (n : Nat), Rps K ρ H ds vs → Rps K ρ H (ds.drop n) (vs.drop n)
  | _, _, 0, h => h
  | [], _, n + 1, h => by cases h; rfl
  | d :: ds, _, n + 1, h => by obtain ⟨v, r, rfl, h1, h2⟩ := h; exact Rps.drop n h2
theorem Rps.take : ∀ {ds : List D} {vs : List V} (n : Nat), Rps K ρ H ds vs → Rps K ρ H (ds.take n) (vs.take n)
  | _, _, 0, h => rfl
  | [], _, n + 1, h => by cases h; rfl
  | d :: ds, _, n + 1, h => by obtain ⟨v, r, rfl, h1, h2⟩ := h; exact ⟨v, _, rfl, h1, Rps.take n h2⟩
theorem Rps.nil_iff {ds : List D} {vs : List V} (h : Rps K ρ H ds vs) : ds = [] ↔ vs = [] := by
  cases ds with
  | nil => cases h; simp
  | cons d ds => obtain ⟨v, r, rfl, _⟩ := h; simp
theorem Rps.set : ∀ {ds : List D} {vs : List V} (i : Nat) {d : D} {v : V}, Rps K ρ H ds vs → Rp K ρ H d v → Rps K ρ H (ds.set i d) (vs.set i v)
  | [], _, _, _, _, h, k => by cases h; rfl
  | d :: ds, _, 0, _, _, h, k => by obtain ⟨v, r, rfl, h1, h2⟩ := h; exact ⟨_, _, rfl, k, h2⟩
  | d :: ds, _, i + 1, _, _, h, k => by obtain ⟨v, r, rfl, h1, h2⟩ := h; exact ⟨_, _, rfl, h1, Rps.set i h2 k⟩
theorem SOk.alloc {p : Addr} {o : HO} (hS : SOk K ρ S H) (hp : H p = none) : SOk K ρ S (upd H p o) := by
  have st : Stp ρ ρ H (upd H p o) := .alloc hp
  have kv : ∀ {κ : Type} (l : List (κ × D)) (vs : List (κ × V)), KVs K ρ H l vs → KVs K ρ (upd H p o) l vs := by
    intro κ l
    induction l with
    | nil => intro vs h; exact h
    | cons d ds ih => intro vs h; obtain ⟨v, r, e, h1, h2⟩ := h; exact ⟨v, r, e, Rp.step hS st _ _ h1, ih r h2⟩
  refine ⟨hS.inj, hS.dom, fun n o' e => ?_, fun a h => ?_⟩
  · obtain ⟨a, ha, ok⟩ := hS.obj n o' e
    refine ⟨a, ha, ?_⟩
    cases o' with
    | lst l => obtain ⟨vs, h1, h2⟩ := ok; exact ⟨vs, by rw [upd_ne (ne_of_none h1 hp)]; exact h1, Rps.step hS st l vs h2⟩
    | dct l => obtain ⟨vs, h1, h2⟩ := ok; exact ⟨vs, by rw [upd_ne (ne_of_none h1 hp)]; exact h1, kv l vs h2⟩
    | dcT l => obtain ⟨vs, h1, h2⟩ := ok; exact ⟨vs, by rw [upd_ne (ne_of_none h1 hp)]; exact h1, kv l vs h2⟩
    | ins C l => obtain ⟨dx, vs, h1, h2⟩ := ok; exact ⟨dx, vs, by rw [upd_ne (ne_of_none h1 hp)]; exact h1, kv l vs h2⟩
  · obtain ⟨⟨u, h1, h2⟩, h3⟩ := hS.prv a h
    exact ⟨⟨u, by rw [upd_ne (ne_of_none h1 hp)]; exact h1, h2⟩, h3⟩
/-- a new tuple, a new list -/
theorem new_tup {p : Addr} {l : List D} {vs : List V} {Q : VK} (hS : SOk K ρ S H) (r : Rps K ρ H l vs) (hp : H p = none)
    (h : ∀ ρ' H' v, SOk K ρ' S H' → Stp ρ ρ' H H' → Rp K ρ' H' (.tup l) v → Q v H') : Q (.ref p) (upd H p (.tup vs)) :=
  h ρ _ (.ref p) (hS.alloc hp) (.alloc hp) ⟨p, vs, rfl, .inl upd_same, Rps.step hS (.alloc hp) l vs r⟩
theorem new_lst {p : Addr} {l : List D} {vs : List V} {Q : VK} (hS : SOk K ρ S H) (r : Rps K ρ H l vs) (hp : H p = none)
    (h : ∀ ρ' H' v, SOk K ρ' S H' → Stp ρ ρ' H H' → Rp K ρ' H' (.lst l) v → Q v H') : Q (.ref p) (upd H p (.lst vs)) :=
  h ρ _ (.ref p) (hS.alloc hp) (.alloc hp) ⟨p, vs, rfl, upd_same, hS.noN hp, Rps.step hS (.alloc hp) l vs r⟩
end

/-! ### sizes -/
def Sm (n : Nat) (i : Int) : Prop := i.natAbs < 2 ^ n
noncomputable instance {n : Nat} {i : Int} : Decidable (Sm n i) := Classical.propDecidable _
theorem Sm.le {n m : Nat} {i : Int} (h : Sm n i) (hn : n ≤ m) : Sm m i := Nat.lt_of_lt_of_le h (Nat.pow_le_pow_right (by decide) hn)
theorem Sm.mul {n m : Nat} {i j : Int} (h : Sm n i) (k : Sm m j) : Sm (n + m) (i * j) := wide_lt h k
theorem Sm.add {n m : Nat} {i j : Int} (h : Sm n i) (k : Sm m j) : Sm (n + m + 1) (i + j) := by
  have h' : i.natAbs < 2 ^ n := h
  have k' : j.natAbs < 2 ^ m := k
  have e1 : 2 ^ n ≤ 2 ^ (n + m) := Nat.pow_le_pow_right (by decide) (by omega)
  have e2 : 2 ^ m ≤ 2 ^ (n + m) := Nat.pow_le_pow_right (by decide) (by omega)
  show (i + j).natAbs < 2 ^ (n + m + 1)
  rw [Nat.pow_succ]; omega
theorem Sm.neg {n : Nat} {i : Int} (h : Sm n i) : Sm n (-i) := by
  show (-i).natAbs < _; rw [Int.natAbs_neg]; exact h
theorem Sm.sub {n m : Nat} {i j : Int} (h : Sm n i) (k : Sm m j) : Sm (n + m + 1) (i - j) := by
  rw [Int.sub_eq_add_neg]; exact h.add k.neg
theorem Sm.of_le {n : Nat} {i j : Int} (h : Sm n j) (k : i.natAbs ≤ j.natAbs) : Sm n i := Nat.lt_of_le_of_lt k h

/-! ### operators -/
def addD : G2 := fun S a b => match a, b with
  | .int i, .int j => some (.int (i + j))
  | .int i, .bl j => some (.int (i + b2i j))
  | .str x, .str y => if x.length + y.length ≤ 16777216 then some (.str (x ++ y)) else none
  | .tup l, .tup m => if l.length + m.length ≤ 16777216 then some (.tup (l ++ m)) else none
  | .lst l, .lst m => if l.length + m.length ≤ 16777216 then some (.lst (l ++ m)) else none
  | .loc n, .lst m => match S[n]? with
    | some (.lst l) => if l.length + m.length ≤ 16777216 then some (.lst (l ++ m)) else none
    | _ => none
  | .lst l, .loc n => match S[n]? with
    | some (.lst m) => if l.length + m.length ≤ 16777216 then some (.lst (l ++ m)) else none
    | _ => none
  | _, _ => none
theorem sizeLine16 : sizeLine = 16777216 := sizeLine_eq
section
variable {X : Cx}
/-- how such a rule is shown: cases of the data -/
theorem opD_add : OpR X (binaryOp .Add) (rD X.K addD) := by
  intro pins s σ H x y v u Q I rx ry ⟨ρ, S, a, b, z, hS, ra, rb, e, q⟩
  unfold addD at e
  split at e
  · cases e; cases ra; cases rb
    exact op_add pins s σ H _ _ v u Q I rx ry ⟨_, _, rfl, rfl, q ρ H _ hS .refl rfl⟩
  · cases e; cases ra; cases rb
    exact op_add_ib pins s σ H _ _ v u Q I rx ry ⟨_, _, rfl, rfl, q ρ H _ hS .refl rfl⟩
  · rename_i x1 y1
    split at e
    · rename_i hl
      cases e; cases ra; cases rb
      exact op_add_str pins s σ H _ _ v u Q I rx ry ⟨_, _, rfl, rfl, by rw [sizeLine16]; exact hl, q ρ H _ hS .refl rfl⟩
    · cases e
  · rename_i l m
    split at e
    · rename_i hl
      cases e
      obtain ⟨p1, xs, rfl, h1, r1⟩ := ra
      obtain ⟨p2, ys, rfl, h2, r2⟩ := rb
      refine op_catA pins s σ H _ _ v u Q I rx ry ⟨p1, p2, xs, ys, rfl, rfl, h1.sq, h2.sq, by rw [sizeLine16, ← r1.length, ← r2.length]; exact hl, fun e => ?_, fun _ e => ?_, fun _ _ p hp => ?_⟩
      · have := r1.nil_iff.mpr e; subst this
        exact q ρ H _ hS .refl ⟨p2, ys, rfl, h2, by simpa using r2⟩
      · have := r2.nil_iff.mpr e; subst this
        exact q ρ H _ hS .refl ⟨p1, xs, rfl, h1, by simpa using r1⟩
      · exact new_tup hS (r1.append r2) hp q
    · cases e
  · rename_i l m
    split at e
    · rename_i hl
      cases e
      obtain ⟨p1, xs, rfl, h1, n1, r1⟩ := ra
      obtain ⟨p2, ys, rfl, h2, n2, r2⟩ := rb
      exact op_cat pins s σ H _ _ v u Q I rx ry ⟨p1, p2, xs, ys, rfl, rfl, h1, h2, by rw [sizeLine16, ← r1.length, ← r2.length]; exact hl, fun p hp => new_lst hS (r1.append r2) hp q⟩
    · cases e
  · rename_i n m
    split at e
    · rename_i l hn
      split at e
      · rename_i hl
        cases e
        obtain ⟨p1, rfl, h1⟩ := ra
        obtain ⟨p2, ys, rfl, h2, n2, r2⟩ := rb
        obtain ⟨a1, e1, xs, hx, r1⟩ := hS.obj n _ hn
        rw [h1] at e1; cases e1
        exact op_cat pins s σ H _ _ v u Q I rx ry ⟨p1, p2, xs, ys, rfl, rfl, hx, h2, by rw [sizeLine16, ← r1.length, ← r2.length]; exact hl, fun p hp => new_lst hS (r1.append r2) hp q⟩
      · cases e
    · cases e
  · rename_i l n
    split at e
    · rename_i m hn
      split at e
      · rename_i hl
        cases e
        obtain ⟨p2, rfl, h1⟩ := rb
        obtain ⟨p1, xs, rfl, h2, n2, r1⟩ := ra
        obtain ⟨a1, e1, ys, hx, r2⟩ := hS.obj n _ hn
        rw [h1] at e1; cases e1
        exact op_cat pins s σ H _ _ v u Q I rx ry ⟨p1, p2, xs, ys, rfl, rfl, h2, hx, by rw [sizeLine16, ← r1.length, ← r2.length]; exact hl, fun p hp => new_lst hS (r1.append r2) hp q⟩
      · cases e
    · cases e
  · cases e

def subD : G2 := fun _ a b => match a, b with
  | .int i, .int j => some (.int (i - j))
  | .bl i, .bl j => some (.int (b2i i - b2i j))
  | _, _ => none
theorem opD_sub : OpR X (binaryOp .Sub) (rD X.K subD) := by
  intro pins s σ H x y v u Q I rx ry ⟨ρ, S, a, b, z, hS, ra, rb, e, q⟩
  unfold subD at e
  split at e
  · cases e; cases ra; cases rb
    exact op_sub pins s σ H _ _ v u Q I rx ry ⟨_, _, rfl, rfl, q ρ H _ hS .refl rfl⟩
  · cases e; cases ra; cases rb
    cases rx; cases ry
    exact sub_bool ⟨.int _, H, I.tok _, ⟨_, rfl⟩, q ρ H _ hS .refl rfl⟩
  · cases e
theorem intBits_le {i : Int} {n : Nat} (h : i.natAbs < 2 ^ n) (h0 : 0 < n) : (Builtin.Int.intBits i : Int) ≤ n := by
  have x := PySem.Flt.log2_lt_of h0 h
  unfold Builtin.Int.intBits
  split <;> omega
noncomputable def mulD : G2 := fun S a b => match a, b with
  | .int i, .int j => if Sm 60000 i ∧ Sm 60000 j then some (.int (i * j)) else none
  | .lst l, .int j => if 0 ≤ j ∧ j ≤ 100000 ∧ l.length * j.toNat ≤ 16777216 then some (.lst (List.replicate j.toNat l).flatten) else none
  | .loc n, .int j => match S[n]? with
    | some (.lst l) => if 0 ≤ j ∧ j ≤ 100000 ∧ l.length * j.toNat ≤ 16777216 then some (.lst (List.replicate j.toNat l).flatten) else none
    | _ => none
  | .tup l, .int j => if l ≠ [] ∧ 2 ≤ j ∧ j ≤ 1000 ∧ l.length ≤ 1000 then some (.tup (List.replicate j.toNat l).flatten) else none
  | _, _ => none
theorem Rps.rep {K : PySem.W.Frag} {ρ : Rho} {H : Hp} {l : List D} {vs : List V} (h : Rps K ρ H l vs) : ∀ n : Nat, Rps K ρ H (List.replicate n l).flatten (List.replicate n vs).flatten
  | 0 => rfl
  | n + 1 => by
    rw [List.replicate_succ, List.replicate_succ, List.flatten_cons, List.flatten_cons]
    exact h.append (Rps.rep h n)
theorem opD_mul : OpR X (binaryOp .Mult) (rD X.K mulD) := by
  intro pins s σ H x y v u Q I rx ry ⟨ρ, S, a, b, z, hS, ra, rb, e, q⟩
  unfold mulD at e
  split at e
  · split at e
    · rename_i hc
      cases e; cases ra; cases rb
      exact op_mulX pins s σ H _ _ v u Q I rx ry ⟨_, _, rfl, rfl, mulx_ok hc.1 hc.2 (by decide), q ρ H _ hS .refl rfl⟩
    · cases e
  · split at e
    · rename_i l j hc
      cases e
      obtain ⟨p1, xs, rfl, h1, n1, r1⟩ := ra
      cases rb
      exact op_rep pins s σ H _ _ v u Q I rx ry ⟨p1, _, xs, rfl, rfl, h1, by omega, by omega, by rw [sizeLine16, ← r1.length]; exact hc.2.2, fun p hp => new_lst hS (r1.rep _) hp q⟩
    · cases e
  · rename_i n j
    split at e
    · rename_i l hn
      split at e
      · rename_i hc
        cases e
        obtain ⟨p1, rfl, h1⟩ := ra
        obtain ⟨a1, e1, xs, hx, r1⟩ := hS.obj n _ hn
        rw [h1] at e1; cases e1
        cases rb
        exact op_rep pins s σ H _ _ v u Q I rx ry ⟨p1, _, xs, rfl, rfl, hx, by omega, by omega, by rw [sizeLine16, ← r1.length]; exact hc.2.2, fun p hp => new_lst hS (r1.rep _) hp q⟩
      · cases e
    · cases e
  · rename_i l j
    split at e
    · rename_i hc
      cases e
      obtain ⟨p1, xs, rfl, h1, r1⟩ := ra
      cases rb
      exact op_repT pins s σ H _ _ v u Q I rx ry ⟨p1, _, xs, rfl, rfl, h1.sq, fun e => hc.1 (r1.nil_iff.mpr e), hc.2.1, hc.2.2.1, by rw [← r1.length]; exact hc.2.2.2, fun p hp => new_tup hS (r1.rep _) hp q⟩
    · cases e
  · cases e
noncomputable def fdivD : G2 := fun _ a b => match a, b with
  | .int i, .int j => if j ≠ 0 ∧ Sm 8000 j then some (.int (i.fdiv j)) else none
  | _, _ => none
theorem opD_fdiv : OpR X (binaryOp .FloorDiv) (rD X.K fdivD) := by
  intro pins s σ H x y v u Q I rx ry ⟨ρ, S, a, b, z, hS, ra, rb, e, q⟩
  unfold fdivD at e
  split at e
  · split at e
    · rename_i i j hc
      cases e; cases ra; cases rb
      obtain ⟨t, rfl⟩ := rx
      obtain ⟨t', rfl⟩ := ry
      exact floordiv_int hc.1 ⟨.int _, H, I.tok _, ⟨_, rfl⟩, q ρ H _ hS .refl rfl⟩ (.inl (PyProof.noPylong_of_log2 (Nat.lt_trans (PySem.Flt.log2_lt_of (by decide) hc.2) (by decide))))
    · cases e
  · cases e
def modD : G2 := fun _ a b => match a, b with
  | .int i, .int j => if j ≠ 0 then some (.int (i.fmod j)) else none
  | _, _ => none
theorem opD_mod : OpR X (binaryOp .Mod) (rD X.K modD) := by
  intro pins s σ H x y v u Q I rx ry ⟨ρ, S, a, b, z, hS, ra, rb, e, q⟩
  unfold modD at e
  split at e
  · split at e
    · rename_i i j hc
      cases e; cases ra; cases rb
      exact op_modN pins s σ H _ _ v u Q I rx ry ⟨_, _, rfl, rfl, hc, q ρ H _ hS .refl rfl⟩
    · cases e
  · cases e
noncomputable def powD : G2 := fun _ a b => match a, b with
  | .int i, .int j => if 0 ≤ j ∧ j ≤ 100 ∧ Sm 60000 i then some (.int (i ^ j.toNat)) else none
  | _, _ => none
theorem opD_pow : OpR X (binaryOp .Pow) (rD X.K powD) := by
  intro pins s σ H x y v u Q I rx ry ⟨ρ, S, a, b, z, hS, ra, rb, e, q⟩
  unfold powD at e
  split at e
  · split at e
    · rename_i i j hc
      cases e; cases ra; cases rb
      obtain ⟨t, rfl⟩ := rx
      obtain ⟨t', rfl⟩ := ry
      refine pow_int hc.1 ?_ ⟨.int _, H, I.tok _, ⟨_, rfl⟩, q ρ H _ hS .refl rfl⟩
      have h1 := intBits_le hc.2.2 (by decide)
      have h2 : (Builtin.Int.intBits i : Int) * j ≤ 60000 * 100 := by
        refine Int.mul_le_mul h1 hc.2.1 hc.1 (by decide)
      exact Int.le_trans h2 (by decide)
    · cases e
  · cases e
noncomputable def shlD : G2 := fun _ a b => match a, b with
  | .int i, .int j => if 0 ≤ j ∧ j ≤ 10000 ∧ Sm 60000 i then some (.int (i * 2 ^ j.toNat)) else none
  | _, _ => none
theorem opD_shl : OpR X (binaryOp .LShift) (rD X.K shlD) := by
  intro pins s σ H x y v u Q I rx ry ⟨ρ, S, a, b, z, hS, ra, rb, e, q⟩
  unfold shlD at e
  split at e
  · split at e
    · rename_i i j hc
      cases e; cases ra; cases rb
      obtain ⟨t, rfl⟩ := rx
      obtain ⟨t', rfl⟩ := ry
      refine lshift_int hc.1 ?_ ⟨.int _, H, I.tok _, ⟨_, rfl⟩, q ρ H _ hS .refl rfl⟩
      have h1 := intBits_le hc.2.2 (by decide)
      have : (2 : Int) ^ 27 = 134217728 := by decide
      omega
    · cases e
  · cases e
def negD : G1 := fun _ a => match a with
  | .int i => some (.int (-i))
  | _ => none
theorem unD_neg : UnR X (unaryOp .USub) (rD1 X.K negD) := by
  intro pins s σ H x v Q I rx ⟨ρ, S, a, z, hS, ra, e, q⟩
  unfold negD at e
  split at e
  · cases e; cases ra
    exact un_neg pins s σ H _ v Q I rx ⟨_, rfl, q ρ H _ hS .refl rfl⟩
  · cases e
/-! ### comparisons -/
def cmpD (f : Int → Int → Bool) : G2 := fun _ a b => match a, b with
  | .int i, .int j => some (.bl (f i j))
  | _, _ => none
theorem opD_cmp {op : CmpOp} {f : Int → Int → Bool} (h : OpR X (compareOp op) (rI0 fun i j => .bl (f i j))) : OpR X (compareOp op) (rD X.K (cmpD f)) := by
  intro pins s σ H x y v u Q I rx ry ⟨ρ, S, a, b, z, hS, ra, rb, e, q⟩
  unfold cmpD at e
  split at e
  · cases e; cases ra; cases rb
    exact h pins s σ H _ _ v u Q I rx ry ⟨_, _, rfl, rfl, q ρ H _ hS .refl rfl⟩
  · cases e
abbrev ltD : G2 := cmpD fun i j => decide (i < j)
abbrev leD : G2 := cmpD fun i j => decide (i ≤ j)
abbrev gtD : G2 := cmpD fun i j => decide (j < i)
abbrev geD : G2 := cmpD fun i j => decide (j ≤ i)
theorem opD_lt : OpR X (compareOp .Lt) (rD X.K ltD) := opD_cmp op_lt
theorem opD_le : OpR X (compareOp .LtE) (rD X.K leD) := opD_cmp op_le
theorem opD_gt : OpR X (compareOp .Gt) (rD X.K gtD) := opD_cmp op_gt
theorem opD_ge : OpR X (compareOp .GtE) (rD X.K geD) := opD_cmp op_ge
end
/-! ### == -/
mutual
def D.py : D → PyData
  | .non => .none
  | .bl b => .bool b
  | .int i => .int i
  | .str x => .str x
  | .tup l => .tuple (D.pys l)
  | .lst l => .list (D.pys l)
  | .wls l => .list (D.pys l)
  | .loc _ => .dict []
  | .gl _ => .dict []
  | .ty _ => .dict []
  | .dic _ _ => .dict []
def D.pys : List D → List PyData
  | [] => []
  | d :: ds => D.py d :: D.pys ds
end
def der (S : Sto) : D → D
  | .loc n => match S[n]? with
    | some (.lst l) => .lst l
    | _ => .loc n
  | d => d
section
variable {K : PySem.W.Frag} {ρ : Rho} {S : Sto} {H : Hp}
mutual
theorem Rp.dp : ∀ (d : D) (v : V), Rp K ρ H d v → d.py.canLay0 = true → Dp K H v d.py
  | .non, v, h, _ => by cases h; exact .non
  | .bl b, v, h, _ => by cases h; exact .bl b
  | .int i, v, h, _ => by cases h; exact .int i
  | .str x, v, h, _ => by cases h; exact .str x
  | .tup l, v, h, c => by
    obtain ⟨p, vs, rfl, h1, h2⟩ := h
    exact .tup h1.sq (Rps.dp l vs h2 (by simpa [D.py, PyData.canLay0] using c))
  | .lst l, v, h, c => by
    obtain ⟨p, vs, rfl, h1, _, h2⟩ := h
    exact .lst (SqL.of h1) (Rps.dp l vs h2 (by simpa [D.py, PyData.canLay0] using c))
  | .wls l, v, h, c => by
    obtain ⟨p, vs, rfl, h1, h2⟩ := h
    exact .lst h1.sq (Rps.dp l vs h2 (by simpa [D.py, PyData.canLay0] using c))
  | .loc n, v, h, c => by simp [D.py, PyData.canLay0] at c
  | .gl n, v, h, c => by simp [D.py, PyData.canLay0] at c
  | .ty n, v, h, c => by simp [D.py, PyData.canLay0] at c
  | .dic _ _, v, h, c => by simp [D.py, PyData.canLay0] at c
theorem Rps.dp : ∀ (ds : List D) (vs : List V), Rps K ρ H ds vs → PyData.canLayAll0 (D.pys ds) = true → DpAll K H vs (D.pys ds)
  | [], vs, h, _ => by cases h; exact .nil
  | d :: ds, vs, h, c => by
    obtain ⟨v, r, rfl, h1, h2⟩ := h
    have c' : d.py.canLay0 = true ∧ PyData.canLayAll0 (D.pys ds) = true := by simpa [D.pys, PyData.canLayAll0] using c
    exact .cons (Rp.dp d v h1 c'.1) (Rps.dp ds r h2 c'.2)
end
theorem der_dp {d : D} {v : V} (hS : SOk K ρ S H) (h : Rp K ρ H d v) (c : (der S d).py.canLay0 = true) : Dp K H v (der S d).py := by
  cases d with
  | loc n =>
    unfold der at c ⊢
    simp only at c ⊢
    split at c
    · rename_i l hn
      obtain ⟨p1, rfl, h1⟩ := h
      obtain ⟨a1, e1, xs, hx, r1⟩ := hS.obj n _ hn
      rw [h1] at e1; cases e1
      exact .lst (SqL.of hx) (Rps.dp l xs r1 (by simpa [D.py, PyData.canLay0] using c))
    · simp [D.py, PyData.canLay0] at c
  | _ => exact Rp.dp _ v h c
end
def eqD : G2 := fun S a b => if SeqAt.shaped (der S a).py = true ∧ SeqAt.shaped (der S b).py = true then some (.bl (PyData.eqv (der S a).py (der S b).py)) else none
def neD : G2 := fun S a b => if SeqAt.shaped (der S a).py = true ∧ SeqAt.shaped (der S b).py = true then some (.bl (!PyData.eqv (der S a).py (der S b).py)) else none
section
variable {X : Cx}
theorem opD_eq (hu : X.A.units + 64 < cLine) : OpR X (compareOp .Eq) (rD X.K eqD) := by
  intro pins s σ H x y v u Q I rx ry ⟨ρ, S, a, b, z, hS, ra, rb, e, q⟩
  unfold eqD at e
  split at e
  · rename_i hc
    cases e
    exact op_eqD hu pins s σ H x y v u Q I rx ry ⟨_, _, der_dp hS ra (SeqAt.canLay_of_shaped hc.1), der_dp hS rb (SeqAt.canLay_of_shaped hc.2), hc.1, hc.2, q ρ H _ hS .refl rfl⟩
  · cases e
theorem opD_ne (hu : X.A.units + 64 < cLine) : OpR X (compareOp .NotEq) (rD X.K neD) := by
  intro pins s σ H x y v u Q I rx ry ⟨ρ, S, a, b, z, hS, ra, rb, e, q⟩
  unfold neD at e
  split at e
  · rename_i hc
    cases e
    exact op_neD hu pins s σ H x y v u Q I rx ry ⟨_, _, der_dp hS ra (SeqAt.canLay_of_shaped hc.1), der_dp hS rb (SeqAt.canLay_of_shaped hc.2), hc.1, hc.2, q ρ H _ hS .refl rfl⟩
  · cases e
/-! ### is -/
def D.isNon : D → Bool
  | .non => true
  | _ => false
def D.isBl (c : Bool) : D → Bool
  | .bl d => decide (d = c)
  | _ => false
def isB (a b : D) : Option Bool := match b with
  | .non => some a.isNon
  | .bl c => some (a.isBl c)
  | _ => none
def isD : G2 := fun _ a b => (isB a b).map .bl
def isnD : G2 := fun _ a b => (isB a b).map fun c => .bl (!c)
theorem Rp.ne_non {K : PySem.W.Frag} {ρ : Rho} {H : Hp} {a : D} {x : V} (h : Rp K ρ H a x) : decide (x = V.non) = a.isNon := by
  cases a with
  | tup l => obtain ⟨p, vs, rfl, _⟩ := h; rfl
  | lst l => obtain ⟨p, vs, rfl, _⟩ := h; rfl
  | wls l => obtain ⟨p, vs, rfl, _⟩ := h; rfl
  | loc n => obtain ⟨p, rfl, _⟩ := h; rfl
  | dic ks l => obtain ⟨p, vs, rfl, _⟩ := h; rfl
  | _ => cases h; rfl
theorem relv_isb {x : V} {v : Value} {c : Bool} (r : L2.RelV x v) : (v = Value.bool c) ↔ x = .bl c := by
  cases x with
  | non => cases r; simp
  | bl b => cases r; simp
  | int i => obtain ⟨t, rfl⟩ := r; simp
  | str i => obtain ⟨t, rfl⟩ := r; simp
  | byt i => obtain ⟨t, rfl⟩ := r; simp
  | flt i => obtain ⟨t, rfl⟩ := r; simp
  | ref a => cases r; simp
  | ty n => cases r; simp
theorem plain_bl {x : V} {v : Value} {c : Bool} (r : L2.RelV x v) : plainIs v (.bool c) = true := by
  cases x with
  | non => cases r; rfl
  | bl b => cases r; rfl
  | int i => obtain ⟨t, rfl⟩ := r; rfl
  | str i => obtain ⟨t, rfl⟩ := r; rfl
  | byt i => obtain ⟨t, rfl⟩ := r; rfl
  | flt i => obtain ⟨t, rfl⟩ := r; rfl
  | ref a => cases r; rfl
  | ty n => cases r; rfl
theorem Rp.is_bl {K : PySem.W.Frag} {ρ : Rho} {H : Hp} {a : D} {x : V} {c : Bool} (h : Rp K ρ H a x) : decide (x = V.bl c) = a.isBl c := by
  cases a with
  | tup l => obtain ⟨p, vs, rfl, _⟩ := h; rfl
  | lst l => obtain ⟨p, vs, rfl, _⟩ := h; rfl
  | wls l => obtain ⟨p, vs, rfl, _⟩ := h; rfl
  | loc n => obtain ⟨p, rfl, _⟩ := h; rfl
  | dic ks l => obtain ⟨p, vs, rfl, _⟩ := h; rfl
  | bl d => cases h; simp [D.isBl]
  | _ => cases h; rfl
end
end Mi

namespace Mi
open PySem PySem.Spec PyProof.Rows L2
section
variable {X : Cx}
theorem opD_is : OpR X (compareOp .Is) (rD X.K isD) := by
  intro pins s σ H x y v u Q I rx ry ⟨ρ, S, a, b, z, hS, ra, rb, e, q⟩
  unfold isD isB at e
  split at e
  · cases e; cases rb
    exact op_isN pins s σ H _ _ v u Q I rx ry ⟨rfl, by rw [ra.ne_non]; exact q ρ H _ hS .refl rfl⟩
  · rename_i c
    cases e; cases rb; cases ry
    refine wpAny_is_plain (plain_bl rx) ⟨.bl _, H, I, rfl, ?_⟩
    have e1 : (v == Value.bool c) = decide (x = V.bl c) := by
      rw [Bool.eq_iff_iff]; simp [relv_isb rx]
    rw [e1, ra.is_bl]
    exact q ρ H _ hS .refl rfl
  · cases e
theorem opD_isn : OpR X (compareOp .IsNot) (rD X.K isnD) := by
  intro pins s σ H x y v u Q I rx ry ⟨ρ, S, a, b, z, hS, ra, rb, e, q⟩
  unfold isnD isB at e
  split at e
  · cases e; cases rb
    exact op_notN pins s σ H _ _ v u Q I rx ry ⟨rfl, by rw [ra.ne_non]; exact q ρ H _ hS .refl rfl⟩
  · rename_i c
    cases e; cases rb; cases ry
    refine wpAny_isNot_plain (plain_bl rx) ⟨.bl _, H, I, rfl, ?_⟩
    have e1 : (v == Value.bool c) = decide (x = V.bl c) := by
      rw [Bool.eq_iff_iff]; simp [relv_isb rx]
    rw [e1, ra.is_bl]
    exact q ρ H _ hS .refl rfl
  · cases e
end
/-! ### in: data in a list; flat data in a tuple -/
def D.flat : D → Bool
  | .non => true
  | .bl _ => true
  | .int _ => true
  | .str _ => true
  | _ => false
def inB (S : Sto) (a b : D) : Option Bool := match der S b with
  | .lst l => if SeqAt.shaped a.py = true ∧ SeqAt.shaped (.list (D.pys l)) = true then some ((D.pys l).any fun z => PyData.eqv z a.py) else none
  | .wls l => if SeqAt.shaped a.py = true ∧ SeqAt.shaped (.list (D.pys l)) = true then some ((D.pys l).any fun z => PyData.eqv z a.py) else none
  | .tup l => if a.flat = true ∧ l.all D.flat = true then some (l.any fun z => PyData.eqv z.py a.py) else none
  | _ => none
def inD : G2 := fun S a b => (inB S a b).map .bl
def ninD : G2 := fun S a b => (inB S a b).map fun c => .bl (!c)
section
variable {K : PySem.W.Frag} {ρ : Rho} {S : Sto} {H : Hp}
theorem Rp.flatV {d : D} {v : V} (h : Rp K ρ H d v) (f : d.flat = true) : flatV v = true := by
  cases d <;> first | (cases h; rfl) | (simp [D.flat] at f)
theorem Rps.flatV : ∀ {ds : List D} {vs : List V}, Rps K ρ H ds vs → ds.all D.flat = true → vs.all L2.flatV = true
  | [], _, h, _ => by cases h; rfl
  | d :: ds, _, h, f => by
    obtain ⟨v, r, rfl, h1, h2⟩ := h
    rw [List.all_cons, Bool.and_eq_true] at f
    rw [List.all_cons, h1.flatV f.1, Rps.flatV h2 f.2]; rfl
theorem Rp.eqV {d e : D} {v u : V} (h : Rp K ρ H d v) (k : Rp K ρ H e u) (f : d.flat = true) (g : e.flat = true) : eqV v u = PyData.eqv d.py e.py := by
  cases d <;> first
    | (simp [D.flat] at f; done)
    | (cases h; cases e <;> first
        | (simp [D.flat] at g; done)
        | (cases k; rfl))
theorem Rps.inV : ∀ {ds : List D} {vs : List V} {e : D} {u : V}, Rps K ρ H ds vs → Rp K ρ H e u → ds.all D.flat = true → e.flat = true → L2.inV u vs = ds.any fun z => PyData.eqv z.py e.py
  | [], _, _, _, h, _, _, _ => by cases h; rfl
  | d :: ds, _, e, u, h, k, f, g => by
    obtain ⟨v, r, rfl, h1, h2⟩ := h
    rw [List.all_cons, Bool.and_eq_true] at f
    have ih := Rps.inV h2 k f.2 g
    unfold L2.inV at ih ⊢
    rw [List.any_cons, List.any_cons, h1.eqV k f.1 g, ih]
end
section
variable {X : Cx}
theorem inB_ok {pins : List (Addr × Obj)} {s : Shared} {σ : L2.St} {H : Hp} {x y : V} {v u : Value} {Q : VK} {ρ : Rho} {S : Sto} {a b : D} {c : Bool} (hu : X.A.units + 65 < cLine) (I : Inv X pins σ H s) (rx : RelV x v) (ry : RelV y u)
    (hS : SOk X.K ρ S H) (ra : Rp X.K ρ H a x) (rb : Rp X.K ρ H b y) (e : inB S a b = some c) :
    (Q (.bl c) H → wpAny (model X.prog X.w) X.A (compareOp .In v u) (EP X pins σ Q) X.xe s) ∧ (Q (.bl (!c)) H → wpAny (model X.prog X.w) X.A (compareOp .NotIn v u) (EP X pins σ Q) X.xe s) := by
  unfold inB at e
  have lists : ∀ l : List D, (der S b = .lst l ∨ der S b = .wls l) → SeqAt.shaped a.py = true → SeqAt.shaped (.list (D.pys l)) = true → c = ((D.pys l).any fun z => PyData.eqv z a.py) →
      (Q (.bl c) H → wpAny (model X.prog X.w) X.A (compareOp .In v u) (EP X pins σ Q) X.xe s) ∧ (Q (.bl (!c)) H → wpAny (model X.prog X.w) X.A (compareOp .NotIn v u) (EP X pins σ Q) X.xe s) := by
    intro l hd h1 h2 hc
    have e1 : (der S b).py = .list (D.pys l) := by rcases hd with q | q <;> rw [q] <;> rfl
    have d1 := ra.dp _ _ (SeqAt.canLay_of_shaped h1)
    have d2 := der_dp hS rb (by rw [e1]; exact SeqAt.canLay_of_shaped h2)
    rw [e1] at d2
    subst hc
    exact ⟨fun q => op_inD hu pins s σ H x y v u Q I rx ry ⟨_, _, d1, d2, h1, h2, q⟩, fun q => op_notInD hu pins s σ H x y v u Q I rx ry ⟨_, _, d1, d2, h1, h2, q⟩⟩
  split at e
  · rename_i l hd
    split at e
    · rename_i hc
      exact lists l (.inl hd) hc.1 hc.2 (Option.some.inj e).symm
    · cases e
  · rename_i l hd
    split at e
    · rename_i hc
      exact lists l (.inr hd) hc.1 hc.2 (Option.some.inj e).symm
    · cases e
  · rename_i l hd
    split at e
    · rename_i hc
      have hb : b = .tup l := by
        cases b with
        | loc n =>
          unfold der at hd
          simp only at hd
          split at hd <;> cases hd
        | _ => exact hd
      subst hb
      obtain ⟨p, vs, rfl, h1, h2⟩ := rb
      have e1 := h2.inV ra hc.2 hc.1
      have e2 := Option.some.inj e
      refine ⟨fun q => op_in_seq pins s σ H x _ v u Q I rx ry ⟨p, vs, rfl, .inr h1.sq, ra.flatV hc.1, h2.flatV hc.2, ?_⟩, fun q => op_notIn_seq pins s σ H x _ v u Q I rx ry ⟨p, vs, rfl, .inr h1.sq, ra.flatV hc.1, h2.flatV hc.2, ?_⟩⟩
      · rw [if_neg (by decide), e1, e2]; exact q
      · rw [if_pos rfl, e1, e2]; exact q
    · cases e
  · cases e
theorem opD_in (hu : X.A.units + 65 < cLine) : OpR X (compareOp .In) (rD X.K inD) := by
  intro pins s σ H x y v u Q I rx ry ⟨ρ, S, a, b, z, hS, ra, rb, e, q⟩
  unfold inD at e
  cases hc : inB S a b with
  | none => rw [hc] at e; cases e
  | some c =>
    rw [hc] at e; cases e
    exact (inB_ok (Q := Q) hu I rx ry hS ra rb hc).1 (q ρ H _ hS .refl rfl)
theorem opD_nin (hu : X.A.units + 65 < cLine) : OpR X (compareOp .NotIn) (rD X.K ninD) := by
  intro pins s σ H x y v u Q I rx ry ⟨ρ, S, a, b, z, hS, ra, rb, e, q⟩
  unfold ninD at e
  cases hc : inB S a b with
  | none => rw [hc] at e; cases e
  | some c =>
    rw [hc] at e; cases e
    exact (inB_ok (Q := Q) hu I rx ry hS ra rb hc).2 (q ρ H _ hS .refl rfl)
end

/-! ### subscripts -/
def keyD : D → Option Key
  | .int i => some (.inl i)
  | .str x => some (.inr x)
  | _ => none
def keysD : List D → Option (List Key)
  | [] => some []
  | d :: ds => (keyD d).bind fun k => (keysD ds).map fun ks => k :: ks
def valD {κ : Type} [DecidableEq κ] (l : List (κ × D)) (k : κ) : Option D := (l.find? fun kv => decide (kv.1 = k)).map (·.2)
def intD : D → Option Int
  | .int i => some i
  | _ => none
def ixD : G2 := fun S a b => match a with
  | .tup l => (intD b).bind (atI l)
  | .lst l => (intD b).bind (atI l)
  | .wls l => (intD b).bind (atI l)
  | .loc n => match S[n]? with
    | some (.lst l) => (intD b).bind (atI l)
    | some (.dct l) => (keyD b).bind (valD l)
    | _ => none
  | .str x => if x.length ≤ 16777216 then ((intD b).bind (atI x.cps.toList)).map fun c => .str ⟨#[c]⟩ else none
  | _ => none
section
variable {K : PySem.W.Frag} {ρ : Rho} {S : Sto} {H : Hp}
theorem Rps.atI {l : List D} {vs : List V} {i : Int} {d : D} (h : Rps K ρ H l vs) (e : L2.atI l i = some d) : ∃ v, L2.atI vs i = some v ∧ Rp K ρ H d v := by
  unfold L2.atI at e ⊢
  rw [← h.length]
  cases q : ixN l.length i with
  | none => rw [q] at e; cases e
  | some j =>
    rw [q] at e
    exact h.get e
theorem Rp.key {b : D} {y : V} {k : Key} (h : Rp K ρ H b y) (e : keyD b = some k) : y = kV k := by
  cases b with
  | int i => cases e; exact h
  | str x => cases e; exact h
  | _ => cases e
theorem Rps.keys : ∀ {l : List D} {vs : List V} {ks : List Key}, Rps K ρ H l vs → keysD l = some ks → vs = ks.map kV
  | [], _, _, h, e => by cases h; cases e; rfl
  | d :: ds, _, ks, h, e => by
    obtain ⟨v, r, rfl, h1, h2⟩ := h
    unfold keysD at e
    cases hk : keyD d with
    | none => rw [hk] at e; cases e
    | some k =>
      rw [hk] at e
      cases hks : keysD ds with
      | none => rw [hks] at e; cases e
      | some ks' =>
        rw [hks] at e
        cases e
        rw [h1.key hk, Rps.keys h2 hks]; rfl
theorem KVs.val {κ : Type} [DecidableEq κ] : ∀ {l : List (κ × D)} {vs : List (κ × V)} {k : κ} {d : D}, KVs K ρ H l vs → valD l k = some d → ∃ v, valV vs k = some v ∧ Rp K ρ H d v
  | [], _, _, _, h, e => by cases e
  | (k0, d0) :: ds, _, k, d, h, e => by
    obtain ⟨v, r, rfl, h1, h2⟩ := h
    unfold valD at e
    unfold valV
    rw [List.find?_cons] at e ⊢
    by_cases q : k0 = k
    · subst q
      simp only [decide_true, Option.map_some, Option.some.injEq] at e ⊢
      subst e
      exact ⟨v, rfl, h1⟩
    · rw [decide_eq_false q] at e
      simp only [decide_eq_false q] at e ⊢
      exact KVs.val h2 e
end
theorem Rp.int' {K : PySem.W.Frag} {ρ : Rho} {H : Hp} {b : D} {y : V} {α : Type} {f : Int → Option α} {z : α} (h : Rp K ρ H b y) (e : (intD b).bind f = some z) : ∃ i, y = .int i ∧ f i = some z := by
  cases b with
  | int i => exact ⟨i, h, e⟩
  | _ => cases e
section
variable {X : Cx}
theorem ixD_ok (hu : X.A.units + 1 < cLine) : IxR X (rD X.K ixD) := by
  intro value slice pins s σ H x y v u Q I rx ry ⟨ρ, S, a, b, z, hS, ra, rb, e, q⟩ hs
  unfold ixD at e
  have lists : ∀ (p1 : Addr) (xs : List V) (l : List D), x = .ref p1 → (SqL X.K H p1 xs ∨ SqT X.K H p1 xs) → Rps X.K ρ H l xs → (intD b).bind (L2.atI l) = some z → wpAny (model X.prog X.w) X.A (subscriptTail value slice v u) (EP X pins σ Q) X.xe s := by
    intro p1 xs l ex h1 r1 e
    subst ex
    obtain ⟨i, rfl, e⟩ := rb.int' e
    obtain ⟨w, e1, r2⟩ := r1.atI e
    rcases h1 with h1 | h1
    · exact ix_list value slice pins s σ H _ _ v u Q I rx ry ⟨p1, xs, _, w, rfl, rfl, h1, e1, q ρ H _ hS .refl r2⟩ hs
    · exact ix_tup value slice pins s σ H _ _ v u Q I rx ry ⟨p1, xs, _, w, rfl, rfl, h1, e1, q ρ H _ hS .refl r2⟩ hs
  cases a with
  | tup l =>
    obtain ⟨p1, xs, ex, h1, r1⟩ := ra
    exact lists p1 xs l ex (.inr h1.sq) r1 e
  | lst l =>
    obtain ⟨p1, xs, ex, h1, _, r1⟩ := ra
    exact lists p1 xs l ex (.inl (SqL.of h1)) r1 e
  | wls l =>
    obtain ⟨p1, xs, ex, h1, r1⟩ := ra
    exact lists p1 xs l ex (.inl h1.sq) r1 e
  | loc n =>
    obtain ⟨p1, ex, h1⟩ := ra
    simp only at e
    split at e
    · rename_i l hn
      obtain ⟨a1, e1, xs, hx, r1⟩ := hS.obj n _ hn
      rw [h1] at e1; cases e1
      exact lists p1 xs l ex (.inl (SqL.of hx)) r1 e
    · rename_i l hn
      obtain ⟨a1, e1, xs, hx, r1⟩ := hS.obj n _ hn
      rw [h1] at e1; cases e1
      subst ex
      cases hk : keyD b with
      | none => rw [hk] at e; cases e
      | some k =>
        rw [hk] at e
        obtain ⟨w, e2, r2⟩ := r1.val e
        have ey := rb.key hk
        subst ey
        have g : DGet H p1 (kV k) (some w) := by
          rw [← e2]
          exact DGet.k hx
        cases rx
        exact PyProof.Rows.tail_any (dict_typeIs I g) PySem.F.slot_dict_getitem.lookup (d_getItem hu I g ry fun w' s3 I3 rw2 => ⟨w, H, I3, rw2, q ρ H w hS .refl r2⟩) hs
    · cases e
  | str x1 =>
    simp only at e
    split at e
    · rename_i hl
      cases hc : (intD b).bind (L2.atI x1.cps.toList) with
      | none => rw [hc] at e; cases e
      | some c =>
        rw [hc] at e; cases e; cases ra
        obtain ⟨i, rfl, hc⟩ := rb.int' hc
        exact ix_str value slice pins s σ H _ _ v u Q I rx ry ⟨x1, i, c, rfl, rfl, by rw [sizeLine16]; exact hl, hc, q ρ H _ hS .refl rfl⟩ hs
    · cases e
  | _ => cases e
theorem d_ix {W : WX} {a b : Expr} {ma mb : TM} {pos : Pos} (hu : X.A.units + 1 < cLine) (ha : DE X W a ma) (hb : DE X W b mb) (hs : PlainIx b) : DE X W (.Subscript a b pos) (mOp ixD ma mb) :=
  ⟨PE.imp (pe_ix (ixD_ok hu) ha.p hb.p hs) fun σ H Q h => of_op h⟩
end
end Mi

namespace Mi
open PySem PySem.Spec PyProof.Rows L2
/-! ### tests -/
def bVal (m : TM) : BM := fun env S => (m env S).bind fun a S1 => match a with
  | .bl b => .ok b S1
  | _ => .bad
def bAnd (m n : BM) : BM := fun env S => (m env S).bind fun a S1 => if a = true then n env S1 else .ok false S1
def bOr (m n : BM) : BM := fun env S => (m env S).bind fun a S1 => if a = true then .ok true S1 else n env S1
def bNot (m : BM) : BM := fun env S => (m env S).bind fun a S1 => .ok (!a) S1
def mAnd (m n : TM) : TM := fun env S => (m env S).bind fun a S1 => match a with
  | .bl true => n env S1
  | .bl false => .ok (.bl false) S1
  | _ => .bad
def mOr (m n : TM) : TM := fun env S => (m env S).bind fun a S1 => match a with
  | .bl true => .ok (.bl true) S1
  | .bl false => n env S1
  | _ => .bad
def mNot (m : TM) : TM := fun env S => (m env S).bind fun a S1 => match a with
  | .bl b => .ok (.bl (!b)) S1
  | _ => .bad
def mIf (t : BM) (m n : TM) : TM := fun env S => (t env S).bind fun a S1 => if a = true then m env S1 else n env S1
structure DW (X : Cx) (W : WX) (e : Expr) (m : BM) : Prop where
  p : PW X e (tT X.K W m)
section
variable {X : Cx} {W : WX} {a b c : Expr} {ma mb mc : TM} {ba bb : BM} {pos : Pos} {rest : List Expr}
theorem of_val {K : PySem.W.Frag} {m : TM} {σ : L2.St} {H : Hp} {Q : Bool → Hp → Prop} (h : tT K W (bVal m) σ H Q) : tTest (tE K W m) σ H Q := by
  obtain ⟨ρ, S, env, hS, hE, h⟩ := h
  refine Post.bindK hS hE h fun x H1 ρ1 S1 d1 hS1 hE1 st1 r1 h1 => ?_
  cases d1 with
  | bl b => cases r1; exact ⟨b, rfl, h1 ρ1 H1 b hS1 .refl rfl⟩
  | _ => exact h1.elim
theorem t_cmp {op : CmpOp} {g : G2} (ho : OpR X (compareOp op) (rD X.K g)) (ha : DE X W a ma) (hb : DE X W b mb) (hm : behindInMarks op b = false) : DT X W (.Compare a [op] [b] pos) (bVal (mOp g ma mb)) :=
  ⟨PT.imp (pt_cmpR ho ha.p hb.p hm) fun σ H Q h => of_op (of_val h)⟩
theorem t_val (h : DE X W a ma) (he : ∀ whole, isTrue a X.env whole = (do let v ← whole; standAt a.pos; holding [v] (truthy v)) := by intro _; rfl) : DT X W a (bVal ma) :=
  ⟨PT.imp (pt_val h.p he) fun σ H Q h => of_val h⟩
theorem t_not (h : DT X W a ba) : DT X W (.UnaryOp .Not a pos) (bNot ba) :=
  ⟨PT.imp (pt_not h.p) fun σ H Q ⟨ρ, S, env, hS, hE, h⟩ => Post.bindK hS hE h fun x H1 ρ1 S1 d1 hS1 hE1 st1 r1 h1 => by cases r1; exact h1 ρ1 H1 _ hS1 .refl rfl⟩
theorem w_and1 (h : DT X W a ba) : DW X W (.BoolOp .And [a] pos) ba := ⟨pw_and1 h.p⟩
theorem w_or1 (h : DT X W a ba) : DW X W (.BoolOp .Or [a] pos) ba := ⟨pw_or1 h.p⟩
theorem w_and (h : DT X W a ba) (k : DW X W (.BoolOp .And (b :: rest) pos) bb) : DW X W (.BoolOp .And (a :: b :: rest) pos) (bAnd ba bb) :=
  ⟨PW.imp (pw_and h.p k.p) fun σ H Q ⟨ρ, S, env, hS, hE, h⟩ => Post.bindK hS hE h fun x H1 ρ1 S1 d1 hS1 hE1 st1 r1 h1 => by
    cases r1
    cases x with
    | true => exact ⟨ρ1, S1, env, hS1, hE1, h1⟩
    | false => exact h1 ρ1 H1 _ hS1 .refl rfl⟩
theorem w_or (h : DT X W a ba) (k : DW X W (.BoolOp .Or (b :: rest) pos) bb) : DW X W (.BoolOp .Or (a :: b :: rest) pos) (bOr ba bb) :=
  ⟨PW.imp (pw_or h.p k.p) fun σ H Q ⟨ρ, S, env, hS, hE, h⟩ => Post.bindK hS hE h fun x H1 ρ1 S1 d1 hS1 hE1 st1 r1 h1 => by
    cases r1
    cases x with
    | true => exact h1 ρ1 H1 _ hS1 .refl rfl
    | false => exact ⟨ρ1, S1, env, hS1, hE1, h1⟩⟩
theorem t_bool (h : DW X W a ba) : DT X W a ba := ⟨h.p.pt⟩
/-- .. as values -/
theorem d_one {op : BoolOp} (h : DE X W a ma) : DE X W (.BoolOp op [a] pos) ma := ⟨pe_one h.p⟩
theorem d_and (h : DE X W a ma) (k : DE X W (.BoolOp .And (b :: rest) pos) mb) : DE X W (.BoolOp .And (a :: b :: rest) pos) (mAnd ma mb) :=
  ⟨PE.imp (pe_and h.p k.p) fun σ H Q ⟨ρ, S, env, hS, hE, h⟩ => Post.bindK hS hE h fun x H1 ρ1 S1 d1 hS1 hE1 st1 r1 h1 => by
    cases d1 with
    | bl d =>
      cases r1
      cases d with
      | true => exact ⟨true, rfl, ρ1, S1, env, hS1, hE1, h1⟩
      | false => exact ⟨false, rfl, h1 ρ1 H1 (.bl false) hS1 .refl rfl⟩
    | _ => exact h1.elim⟩
theorem d_or (h : DE X W a ma) (k : DE X W (.BoolOp .Or (b :: rest) pos) mb) : DE X W (.BoolOp .Or (a :: b :: rest) pos) (mOr ma mb) :=
  ⟨PE.imp (pe_or h.p k.p) fun σ H Q ⟨ρ, S, env, hS, hE, h⟩ => Post.bindK hS hE h fun x H1 ρ1 S1 d1 hS1 hE1 st1 r1 h1 => by
    cases d1 with
    | bl d =>
      cases r1
      cases d with
      | true => exact ⟨true, rfl, h1 ρ1 H1 (.bl true) hS1 .refl rfl⟩
      | false => exact ⟨false, rfl, ρ1, S1, env, hS1, hE1, h1⟩
    | _ => exact h1.elim⟩
theorem d_not (h : DE X W a ma) : DE X W (.UnaryOp .Not a pos) (mNot ma) :=
  ⟨PE.imp (pe_not h.p) fun σ H Q ⟨ρ, S, env, hS, hE, h⟩ => Post.bindK hS hE h fun x H1 ρ1 S1 d1 hS1 hE1 st1 r1 h1 => by
    cases d1 with
    | bl d => cases r1; exact ⟨d, rfl, h1 ρ1 H1 (.bl (!d)) hS1 .refl rfl⟩
    | _ => exact h1.elim⟩
theorem d_if (hc : DT X W c ba) (ha : DE X W a ma) (hb : DE X W b mb) : DE X W (.IfExp c a b pos) (mIf ba ma mb) :=
  ⟨PE.imp (pe_ifExp hc.p ha.p hb.p) fun σ H Q ⟨ρ, S, env, hS, hE, h⟩ => Post.bindK hS hE h fun x H1 ρ1 S1 d1 hS1 hE1 st1 r1 h1 => by
    cases r1
    cases x with
    | true => exact ⟨ρ1, S1, env, hS1, hE1, h1⟩
    | false => exact ⟨ρ1, S1, env, hS1, hE1, h1⟩⟩
end
/-! ### chains -/
def mChain (g g' : G2) (ma mb mc : TM) : TM := fun env S => (ma env S).bind fun a S1 => (mb env S1).bind fun b S2 => match g S2 a b with
  | some (.bl true) => (mc env S2).bind fun c S3 => R.of (g' S3 b c) S3
  | some (.bl false) => .ok (.bl false) S2
  | _ => .bad
section
variable {X : Cx} {W : WX} {a b c : Expr} {ma mb mc : TM} {pos : Pos}
theorem of_chain {K : PySem.W.Frag} {g g' : G2} {σ : L2.St} {H : Hp} {Q : VK} (h : tE K W (mChain g g' ma mb mc) σ H Q) : tChain (rD K g) (rD K g') (tE K W ma) (tE K W mb) (tE K W mc) σ H Q := by
  obtain ⟨ρ, S, env, hS, hE, h⟩ := h
  refine Post.bindK hS hE h fun x H1 ρ1 S1 d1 hS1 hE1 st1 r1 h1 => ?_
  refine Post.bindK hS1 hE1 h1 fun y H2 ρ2 S2 d2 hS2 hE2 st2 r2 h2 => ?_
  have r1' := r1.step hS1 st2
  cases e : g S2 d1 d2 with
  | none => rw [e] at h2; exact h2.elim
  | some z =>
    rw [e] at h2
    cases z with
    | bl k =>
      refine ⟨ρ2, S2, d1, d2, .bl k, hS2, r1', r2, e, fun ρ3 H3 v hS3 st3 r3 => ?_⟩
      cases r3
      refine ⟨k, rfl, ?_⟩
      cases k with
      | true =>
        rw [if_pos rfl]
        have h3 := h2.step st3
        refine Post.bindK hS3 (hE2.step hS2 st3) h3 fun z H4 ρ4 S4 d4 hS4 hE4 st4 r4 h4 => ?_
        cases e' : g' S4 d2 d4 with
        | none => rw [e'] at h4; exact h4.elim
        | some z' =>
          rw [e'] at h4
          exact ⟨ρ4, S4, d2, d4, z', hS4, (r2.step hS2 st3).step hS3 st4, r4, e', h4⟩
      | false =>
        rw [if_neg Bool.false_ne_true]
        exact h2 ρ3 H3 (.bl false) hS3 st3 rfl
    | _ => exact h2.elim
theorem d_chain {op op' : CmpOp} {g g' : G2} (ho : OpR X (compareOp op) (rD X.K g)) (ho' : OpR X (compareOp op') (rD X.K g')) (ha : DE X W a ma) (hb : DE X W b mb) (hc : DE X W c mc)
    (hm : lastMarks [op, op'] [b, c] = false := by with_unfolding_all rfl) : DE X W (.Compare a [op, op'] [b, c] pos) (mChain g g' ma mb mc) :=
  ⟨PE.imp (pe_chain ho ho' ha.p hb.p hc.p hm) fun σ H Q h => of_chain h⟩
theorem t_chain {op op' : CmpOp} {g g' : G2} (ho : OpR X (compareOp op) (rD X.K g)) (ho' : OpR X (compareOp op') (rD X.K g')) (ha : DE X W a ma) (hb : DE X W b mb) (hc : DE X W c mc)
    (hm : lastMarks [op, op'] [b, c] = false := by with_unfolding_all rfl) : DT X W (.Compare a [op, op'] [b, c] pos) (bVal (mChain g g' ma mb mc)) :=
  ⟨PT.imp (pt_chain ho ho' ha.p hb.p hc.p hm) fun σ H Q h => of_chain (of_val h)⟩
end
/-! ### argument lists, tuples, lists -/
def aNil : AM := fun _ S => .ok [] S
def aCons (m : TM) (n : AM) : AM := fun env S => (m env S).bind fun a S1 => (n env S1).bind fun l S2 => .ok (a :: l) S2
def mTup (n : AM) : TM := fun env S => (n env S).bind fun l S1 => if l.length ≤ 16777216 then .ok (.tup l) S1 else .bad
def mLst (n : AM) : TM := fun env S => (n env S).bind fun l S1 => if l.length ≤ 16777216 then .ok (.lst l) S1 else .bad
/-- a new place of the store -/
def R.new (o : O) (S : Sto) : R D := .ok (.loc S.length) (S ++ [o])
def mNew (n : AM) : TM := fun env S => (n env S).bind fun l S1 => if l.length ≤ 16777216 then R.new (.lst l) S1 else .bad
section
variable {K : PySem.W.Frag} {W : WX} {ρ ρ' : Rho} {S S' : Sto} {H H' : Hp} {σ : L2.St}
def Rho.put (ρ : Rho) (n : Nat) (p : Addr) : Rho := ⟨fun m => if m = n then some p else ρ.m m, ρ.pv⟩
theorem new_step {p : Addr} {o : HO} (hS : SOk K ρ S H) (hp : H p = none) : Stp ρ (ρ.put S.length p) H (upd H p o) where
  up n a h := by
    unfold Rho.put
    simp only
    rw [if_neg (Nat.ne_of_lt (hS.dom n a h))]
    exact h
  new n a h := by
    unfold Rho.put at h
    simp only at h
    split at h
    · cases h; exact .inr hp
    · exact .inl h
  pv _ h := .inl h
  pvu _ h := h
  keep a u h _ := by rw [upd_ne (ne_of_none h hp)]; exact h
  live a h := upd_live h
theorem KVs.step {κ : Type} (hS : SOk K ρ S H) (st : Stp ρ ρ' H H') : ∀ (l : List (κ × D)) (vs : List (κ × V)), KVs K ρ H l vs → KVs K ρ' H' l vs
  | [], _, h => h
  | d :: ds, _, h => by obtain ⟨v, r, e, h1, h2⟩ := h; exact ⟨v, r, e, Rp.step hS st _ _ h1, KVs.step hS st ds r h2⟩
/-- the object at n stays as it is through a step that leaves it -/
theorem OOk.step {a : Addr} {o : O} (hS : SOk K ρ S H) (st : Stp ρ ρ' H H') (e : H' a = H a) (h : OOk K ρ H a o) : OOk K ρ' H' a o := by
  cases o with
  | lst l => obtain ⟨vs, h1, h2⟩ := h; exact ⟨vs, by rw [e]; exact h1, Rps.step hS st l vs h2⟩
  | dct l => obtain ⟨vs, h1, h2⟩ := h; exact ⟨vs, by rw [e]; exact h1, KVs.step hS st l vs h2⟩
  | dcT l => obtain ⟨vs, h1, h2⟩ := h; exact ⟨vs, by rw [e]; exact h1, KVs.step hS st l vs h2⟩
  | ins C l => obtain ⟨dx, vs, h1, h2⟩ := h; exact ⟨dx, vs, by rw [e]; exact h1, KVs.step hS st l vs h2⟩
theorem new_sok {p : Addr} {ho : HO} {o : O} (hS : SOk K ρ S H) (hp : H p = none) (ok : OOk K (ρ.put S.length p) (upd H p ho) p o) : SOk K (ρ.put S.length p) (S ++ [o]) (upd H p ho) := by
  have st : Stp ρ (ρ.put S.length p) H (upd H p ho) := new_step hS hp
  have at_ : (ρ.put S.length p).m S.length = some p := by unfold Rho.put; simp
  refine ⟨fun n m a h1 h2 => ?_, fun n a h => ?_, fun n o' e => ?_, fun a h => ?_⟩
  · unfold Rho.put at h1 h2
    simp only at h1 h2
    split at h1 <;> split at h2
    · omega
    · cases h1
      obtain ⟨u, hu, _⟩ := hS.mk' h2
      rw [hp] at hu; cases hu
    · cases h2
      obtain ⟨u, hu, _⟩ := hS.mk' h1
      rw [hp] at hu; cases hu
    · exact hS.inj n m a h1 h2
  · unfold Rho.put at h
    simp only at h
    rw [List.length_append]
    split at h
    · simp; omega
    · have := hS.dom n a h; simp; omega
  · by_cases hn : n < S.length
    · rw [List.getElem?_append_left hn] at e
      obtain ⟨a, ha, ok'⟩ := hS.obj n o' e
      obtain ⟨u, hu, _⟩ := hS.mk' ha
      exact ⟨a, st.up n a ha, ok'.step hS st (upd_ne (ne_of_none hu hp))⟩
    · have hn' : n = S.length := by
        have := (List.getElem?_eq_some_iff.mp e).1
        simp at this; omega
      subst hn'
      simp at e
      subst e
      exact ⟨p, at_, ok⟩
  · obtain ⟨⟨u, h1, h2⟩, h3⟩ := hS.prv a h
    refine ⟨⟨u, by rw [upd_ne (ne_of_none h1 hp)]; exact h1, h2⟩, fun n z => ?_⟩
    unfold Rho.put at z
    simp only at z
    split at z
    · cases z; rw [hp] at h1; cases h1
    · exact h3 n z
/-- a new list that may change -/
theorem new_loc {p : Addr} {l : List D} {vs : List V} {Q : VK} (hS : SOk K ρ S H) (r : Rps K ρ H l vs) (hp : H p = none)
    (h : Post K W (Rp K) ρ H σ (R.new (.lst l) S) Q) : Q (.ref p) (upd H p (.lst vs)) := by
  have st : Stp ρ (ρ.put S.length p) H (upd H p (.lst vs)) := new_step hS hp
  exact h (ρ.put S.length p) _ (.ref p) (new_sok hS hp ⟨vs, upd_same, Rps.step hS st l vs r⟩) st ⟨p, rfl, by unfold Rho.put; simp⟩
end
section
variable {X : Cx} {W : WX} {a b c : Expr} {ma mb mc : TM} {n : AM} {pos : Pos} {es : List Expr}
theorem a_nil : DA X W [] aNil := ⟨PA.imp pa_nil fun σ H Q ⟨ρ, S, env, hS, hE, h⟩ => h ρ H [] hS .refl rfl⟩
theorem a_cons (h : DE X W a ma) (k : DA X W es n) (hs : starEach (a :: es) X.env = (false, eval a X.env) :: starEach es X.env := by rfl) : DA X W (a :: es) (aCons ma n) :=
  ⟨PA.imp (pa_cons h.p k.p hs) fun σ H Q ⟨ρ, S, env, hS, hE, h⟩ => by
    refine Post.bindK hS hE h fun x H1 ρ1 S1 d1 hS1 hE1 st1 r1 h1 => ?_
    refine Post.bindK hS1 hE1 h1 fun y H2 ρ2 S2 l hS2 hE2 st2 r2 h2 => ?_
    exact h2 ρ2 H2 (x :: y) hS2 .refl ⟨x, y, rfl, r1.step hS1 st2, r2⟩⟩
theorem d_tup {k : Nat} (h : DA X W es n) : DE X W (.Tuple es k pos) (mTup n) :=
  ⟨PE.imp (pe_tup h.p) fun σ H Q ⟨ρ, S, env, hS, hE, h⟩ => by
    refine Post.bindK hS hE h fun y H2 ρ2 S2 l hS2 hE2 st2 r2 h2 => ?_
    split at h2
    · rename_i hl
      exact ⟨by rw [sizeLine16, ← r2.length]; exact hl, fun p hp => new_tup hS2 r2 hp h2⟩
    · exact h2.elim⟩
theorem d_lst (h : DA X W es n) : DE X W (.List es pos) (mLst n) :=
  ⟨PE.imp (pe_lst h.p) fun σ H Q ⟨ρ, S, env, hS, hE, h⟩ => by
    refine Post.bindK hS hE h fun y H2 ρ2 S2 l hS2 hE2 st2 r2 h2 => ?_
    split at h2
    · rename_i hl
      exact ⟨by rw [sizeLine16, ← r2.length]; exact hl, fun p hp => new_lst hS2 r2 hp h2⟩
    · exact h2.elim⟩
theorem d_new (h : DA X W es n) : DE X W (.List es pos) (mNew n) :=
  ⟨PE.imp (pe_lst h.p) fun σ H Q ⟨ρ, S, env, hS, hE, h⟩ => by
    refine Post.bindK hS hE h fun y H2 ρ2 S2 l hS2 hE2 st2 r2 h2 => ?_
    split at h2
    · rename_i hl
      exact ⟨by rw [sizeLine16, ← r2.length]; exact hl, fun p hp => new_loc hS2 r2 hp h2⟩
    · exact h2.elim⟩
end
/-! ### slices -/
def oNone : En → Sto → R (Option Int) := fun _ S => .ok none S
def oSome (m : TM) : En → Sto → R (Option Int) := fun env S => (m env S).bind fun a S1 => match a with
  | .int i => .ok (some i) S1
  | _ => .bad
def relO : Rel (Option Int) (Option Int) := fun _ _ a b => a = b
def cutD (l : List D) (lo hi : Option Int) : List D := (l.drop (HT.sIx l.length 0 lo)).take (HT.sIx l.length l.length hi - HT.sIx l.length 0 lo)
def slD (S : Sto) (a : D) (lo hi : Option Int) : Option D := match der S a with
  | .tup l => some (.tup (cutD l lo hi))
  | .lst l => some (.lst (cutD l lo hi))
  | .wls l => some (.lst (cutD l lo hi))
  | _ => none
def mSl (m : TM) (lo hi : En → Sto → R (Option Int)) : TM := fun env S => (m env S).bind fun a S1 => (lo env S1).bind fun l S2 => (hi env S2).bind fun u S3 => R.of (slD S3 a l u) S3
structure DO (X : Cx) (W : WX) (e : Option Expr) (m : En → Sto → R (Option Int)) : Prop where
  p : PO X e (tG X.K W relO m)
section
variable {X : Cx} {W : WX} {a b c : Expr} {ma mb mc : TM} {n : AM} {pos p2 : Pos} {lo hi : Option Expr} {ml mh : En → Sto → R (Option Int)}
theorem PO.imp {e : Option Expr} {t t' : TO} (h : PO X e t) (i : ∀ σ H Q, t' σ H Q → t σ H Q) : PO X e t' := ⟨fun pins s σ H Q I q => h.run pins s σ H Q I (i σ H Q q)⟩
theorem o_none : DO X W none oNone := ⟨PO.imp po_none fun σ H Q ⟨ρ, S, env, hS, hE, h⟩ => h ρ H none hS .refl rfl⟩
theorem o_some (h : DE X W a ma) : DO X W (some a) (oSome ma) :=
  ⟨PO.imp (po_some h.p) fun σ H Q ⟨ρ, S, env, hS, hE, h⟩ => Post.bindK hS hE h fun x H1 ρ1 S1 d1 hS1 hE1 st1 r1 h1 => by
    cases d1 with
    | int i => cases r1; exact ⟨i, rfl, h1 ρ1 H1 (some i) hS1 .refl rfl⟩
    | _ => exact h1.elim⟩
theorem Rps.cut {K : PySem.W.Frag} {ρ : Rho} {H : Hp} {l : List D} {vs : List V} (h : Rps K ρ H l vs) (lo hi : Option Int) : Rps K ρ H (cutD l lo hi) (cutV vs lo hi) := by
  unfold cutD cutV
  rw [← h.length]
  exact (h.drop _).take _
theorem d_sl (h : DE X W a ma) (hl : DO X W lo ml) (hu : DO X W hi mh) : DE X W (.Subscript a (.Slice lo hi none p2) pos) (mSl ma ml mh) :=
  ⟨PE.imp (pe_slice (SlR.or sl_tupA sl_list) h.p hl.p hu.p) fun σ H Q ⟨ρ, S, env, hS, hE, h⟩ => by
    refine Post.bindK hS hE h fun x H1 ρ1 S1 d1 hS1 hE1 st1 r1 h1 => ?_
    refine Post.bindK hS1 hE1 h1 fun y H2 ρ2 S2 o1 hS2 hE2 st2 r2 h2 => ?_
    refine Post.bindK hS2 hE2 h2 fun z H3 ρ3 S3 o2 hS3 hE3 st3 r3 h3 => ?_
    cases r2; cases r3
    have r1' := (r1.step hS1 st2).step hS2 st3
    cases e : slD S3 d1 y z with
    | none => rw [e] at h3; exact h3.elim
    | some d =>
      rw [e] at h3
      unfold slD at e
      have lists : ∀ (p1 : Addr) (xs : List V) (l : List D), x = .ref p1 → SqL X.K H3 p1 xs → Rps X.K ρ3 H3 l xs → d = .lst (cutD l y z) → rSlL X.K x y z H3 Q := by
        intro p1 xs l ex hx rr ed
        subst ex ed
        exact ⟨p1, xs, rfl, hx, fun p hp => new_lst hS3 (rr.cut y z) hp h3⟩
      cases d1 with
      | tup l =>
        cases e
        obtain ⟨p1, xs, rfl, hx, rr⟩ := r1'
        refine .inl ⟨p1, xs, rfl, hx.sq, fun hw => ?_, fun _ p hp => new_tup hS3 (rr.cut y z) hp h3⟩
        refine h3 ρ3 H3 (.ref p1) hS3 .refl ⟨p1, xs, rfl, hx, ?_⟩
        have : cutD l y z = l := by
          unfold cutD
          rw [rr.length, hw.1, hw.2]
          rw [List.drop_zero, Nat.sub_zero, ← rr.length, List.take_length]
        rw [this]; exact rr
      | lst l =>
        cases e
        obtain ⟨p1, xs, ex, hx, _, rr⟩ := r1'
        exact .inr (lists p1 xs l ex (SqL.of hx) rr rfl)
      | wls l =>
        cases e
        obtain ⟨p1, xs, ex, hx, rr⟩ := r1'
        exact .inr (lists p1 xs l ex hx.sq rr rfl)
      | loc n =>
        obtain ⟨p1, ex, hx⟩ := r1'
        unfold der at e
        simp only at e
        cases hn : S3[n]? with
        | none => rw [hn] at e; cases e
        | some o =>
          rw [hn] at e
          cases o with
          | lst l =>
            cases e
            obtain ⟨a1, e1, xs, hx', rr⟩ := hS3.obj n _ hn
            rw [hx] at e1; cases e1
            exact .inr (lists p1 xs l ex (SqL.of hx') rr rfl)
          | _ => cases e
      | _ => cases e⟩
end
/-! ### built-in functions by values -/
abbrev GL := Sto → List D → Option D
def rL (K : PySem.W.Frag) (g : GL) : List V → Hp → VK → Prop := fun xs H Q => ∃ ρ S ds z, SOk K ρ S H ∧ Rps K ρ H ds xs ∧ g S ds = some z ∧
  ∀ ρ' H' v, SOk K ρ' S H' → Stp ρ ρ' H H' → Rp K ρ' H' z v → Q v H'
def mB (g : GL) (n : AM) : TM := fun env S => (n env S).bind fun ds S1 => R.of (g S1 ds) S1
section
variable {X : Cx} {W : WX} {e : Expr} {es : List Expr} {n : AM} {x : Str} {p pos : Pos} {id T : String} {g : GL}
theorem of_B {K : PySem.W.Frag} {σ : L2.St} {H : Hp} {Q : VK} (h : tE K W (mB g n) σ H Q) : tCB (rL K g) (tA K W n) σ H Q := by
  obtain ⟨ρ, S, env, hS, hE, h⟩ := h
  refine Post.bindK hS hE h fun x H1 ρ1 S1 ds hS1 hE1 st1 r1 h1 => ?_
  cases e : g S1 ds with
  | none => rw [e] at h1; exact h1.elim
  | some z => rw [e] at h1; exact ⟨ρ1, S1, ds, z, hS1, r1, e, h1⟩
theorem d_B (hc : CallR X (.builtin id) (rL X.K g)) (hg : Gl X x) (hm : X.mg x = none) (hv : bootBuiltins x = some (.builtin id)) (ha : DA X W (e :: es) n) (hn : x ≠ "__name__" := by decide) (hdb : (x == ("__debug__" : Str)) = false := by decide)
    (he : starEach (e :: es) X.env = (false, eval e X.env) :: starEach es X.env := by rfl) (hpl : (backTo pos (starEach es X.env)).any (·.1) = false := by rfl) : DE X W (.Call (.Name x p) (e :: es) [] pos) (mB g n) :=
  ⟨PE.imp (pe_callB hc hg hm hv ha.p hn hdb he hpl) fun σ H Q h => of_B h⟩
theorem d_Ty (hc : CallR X (.type T) (rL X.K g)) (hg : Gl X x) (hm : X.mg x = none) (hv : bootBuiltins x = some (.type T)) (ha : DA X W (e :: es) n) (hn : x ≠ "__name__" := by decide) (hdb : (x == ("__debug__" : Str)) = false := by decide)
    (he : starEach (e :: es) X.env = (false, eval e X.env) :: starEach es X.env := by rfl) (hpl : (backTo pos (starEach es X.env)).any (·.1) = false := by rfl) : DE X W (.Call (.Name x p) (e :: es) [] pos) (mB g n) :=
  ⟨PE.imp (pe_callTy hc hg hm hv ha.p hn hdb he hpl) fun σ H Q h => of_B h⟩
end
end Mi

namespace Mi
open PySem PySem.Spec PyProof.Rows L2
def intsD : List D → Option (List Int)
  | [] => some []
  | .int i :: ds => (intsD ds).map fun l => i :: l
  | _ => none
def blsD : List D → Option (List Bool)
  | [] => some []
  | .bl i :: ds => (blsD ds).map fun l => i :: l
  | _ => none
/-- the items of a list or tuple -/
def seqD (S : Sto) (d : D) : Option (List D) := match der S d with
  | .tup l => some l
  | .lst l => some l
  | .wls l => some l
  | _ => none
/-- the items of a list -/
def lstD (S : Sto) (d : D) : Option (List D) := match der S d with
  | .lst l => some l
  | .wls l => some l
  | _ => none
section
variable {K : PySem.W.Frag} {ρ : Rho} {S : Sto} {H : Hp}
theorem Rps.one {ds : List D} {v : V} (h : Rps K ρ H ds [v]) : ∃ d, ds = [d] ∧ Rp K ρ H d v := by
  cases ds with
  | nil => cases h
  | cons d ds =>
    obtain ⟨w, r, e, h1, h2⟩ := h
    cases e
    cases ds with
    | nil => exact ⟨d, rfl, h1⟩
    | cons d ds => obtain ⟨w, r, e, _⟩ := h2; cases e
theorem Rps.dest1 {d : D} {vs : List V} (h : Rps K ρ H [d] vs) : ∃ v, vs = [v] ∧ Rp K ρ H d v := by
  obtain ⟨v, r, e, h1, h2⟩ := h; cases h2; exact ⟨v, e, h1⟩
theorem Rps.dest2 {d e : D} {vs : List V} (h : Rps K ρ H [d, e] vs) : ∃ v u, vs = [v, u] ∧ Rp K ρ H d v ∧ Rp K ρ H e u := by
  obtain ⟨v, r, e1, h1, h2⟩ := h
  obtain ⟨u, e2, h3⟩ := h2.dest1
  subst e2
  exact ⟨v, u, e1, h1, h3⟩
theorem der_lst {d : D} {v : V} {l : List D} (hS : SOk K ρ S H) (h : Rp K ρ H d v) (e : lstD S d = some l) : ∃ p vs, v = .ref p ∧ SqL K H p vs ∧ Rps K ρ H l vs := by
  unfold lstD at e
  cases d with
  | lst l' => cases e; obtain ⟨p, vs, e1, h1, _, h2⟩ := h; exact ⟨p, vs, e1, SqL.of h1, h2⟩
  | wls l' => cases e; obtain ⟨p, vs, e1, h1, h2⟩ := h; exact ⟨p, vs, e1, h1.sq, h2⟩
  | loc n =>
    obtain ⟨p, e1, h1⟩ := h
    unfold der at e
    simp only at e
    cases hn : S[n]? with
    | none => rw [hn] at e; cases e
    | some o =>
      rw [hn] at e
      cases o with
      | lst l' =>
        cases e
        obtain ⟨a1, e2, xs, hx, rr⟩ := hS.obj n _ hn
        rw [h1] at e2; cases e2
        exact ⟨p, xs, e1, SqL.of hx, rr⟩
      | _ => cases e
  | _ => cases e
theorem der_seq {d : D} {v : V} {l : List D} (hS : SOk K ρ S H) (h : Rp K ρ H d v) (e : seqD S d = some l) : ∃ p vs, v = .ref p ∧ ((SqL K H p vs ∧ lstD S d = some l) ∨ (TLs K H p vs ∧ d = .tup l)) ∧ Rps K ρ H l vs := by
  have rest : (∀ l, d ≠ .tup l) → lstD S d = some l := by
    intro hd
    unfold seqD at e
    unfold lstD
    cases d with
    | tup l' => exact absurd rfl (hd l')
    | loc n =>
      unfold der at e ⊢
      simp only at e ⊢
      cases hn : S[n]? with
      | none => rw [hn] at e; cases e
      | some o => rw [hn] at e; cases o <;> first | exact e | cases e
    | lst l' => exact e
    | wls l' => exact e
    | _ => cases e
  by_cases hd : ∃ l, d = .tup l
  · obtain ⟨l', rfl⟩ := hd
    cases e
    obtain ⟨p, vs, e1, h1, h2⟩ := h
    exact ⟨p, vs, e1, .inr ⟨h1, rfl⟩, h2⟩
  · have e' := rest fun l z => hd ⟨l, z⟩
    obtain ⟨p, vs, e1, h1, h2⟩ := der_lst hS h e'
    exact ⟨p, vs, e1, .inl ⟨h1, e'⟩, h2⟩
theorem Rps.ints : ∀ {ds : List D} {vs : List V} {ns : List Int}, Rps K ρ H ds vs → intsD ds = some ns → vs = ns.map V.int
  | [], _, _, h, e => by cases h; cases e; rfl
  | .int i :: ds, _, ns, h, e => by
    obtain ⟨v, r, rfl, h1, h2⟩ := h
    unfold intsD at e
    cases q : intsD ds with
    | none => rw [q] at e; cases e
    | some l => rw [q] at e; cases e; cases h1; rw [Rps.ints h2 q]; rfl
  | .non :: _, _, _, _, e => by cases e
  | .bl _ :: _, _, _, _, e => by cases e
  | .str _ :: _, _, _, _, e => by cases e
  | .tup _ :: _, _, _, _, e => by cases e
  | .lst _ :: _, _, _, _, e => by cases e
  | .wls _ :: _, _, _, _, e => by cases e
  | .loc _ :: _, _, _, _, e => by cases e
  | .gl _ :: _, _, _, _, e => by cases e
  | .ty _ :: _, _, _, _, e => by cases e
  | .dic _ _ :: _, _, _, _, e => by cases e
theorem Rps.bls : ∀ {ds : List D} {vs : List V} {ns : List Bool}, Rps K ρ H ds vs → blsD ds = some ns → vs = ns.map V.bl
  | [], _, _, h, e => by cases h; cases e; rfl
  | .bl i :: ds, _, ns, h, e => by
    obtain ⟨v, r, rfl, h1, h2⟩ := h
    unfold blsD at e
    cases q : blsD ds with
    | none => rw [q] at e; cases e
    | some l => rw [q] at e; cases e; cases h1; rw [Rps.bls h2 q]; rfl
  | .non :: _, _, _, _, e => by cases e
  | .int _ :: _, _, _, _, e => by cases e
  | .str _ :: _, _, _, _, e => by cases e
  | .tup _ :: _, _, _, _, e => by cases e
  | .lst _ :: _, _, _, _, e => by cases e
  | .wls _ :: _, _, _, _, e => by cases e
  | .loc _ :: _, _, _, _, e => by cases e
  | .gl _ :: _, _, _, _, e => by cases e
  | .ty _ :: _, _, _, _, e => by cases e
  | .dic _ _ :: _, _, _, _, e => by cases e
theorem Rps.ofInts : ∀ {ns : List Int}, Rps K ρ H (ns.map D.int) (ns.map V.int)
  | [] => rfl
  | n :: ns => ⟨_, _, rfl, rfl, Rps.ofInts⟩
end
/-! ### len, abs, min, max, int, all, any, sum, list, tuple -/
def lenD : GL := fun S ds => match ds with
  | [.str x] => if x.length ≤ 16777216 then some (.int x.length) else none
  | [d] => (seqD S d).map fun l => .int l.length
  | _ => none
def absD : GL := fun _ ds => match ds with
  | [.int i] => some (.int (if i < 0 then -i else i))
  | _ => none
def max2D : GL := fun _ ds => match ds with
  | [.int i, .int j] => some (.int (if j > i then j else i))
  | _ => none
def min2D : GL := fun _ ds => match ds with
  | [.int i, .int j] => some (.int (if j < i then j else i))
  | _ => none
def intfD : GL := fun _ ds => match ds with
  | [.int i] => some (.int i)
  | [.bl b] => some (.int (if b then 1 else 0))
  | _ => none
def allD : GL := fun S ds => match ds with
  | [d] => (lstD S d).bind fun l => (blsD l).map fun bs => .bl (bs.all id)
  | _ => none
def anyD : GL := fun S ds => match ds with
  | [d] => (lstD S d).bind fun l => (blsD l).map fun bs => .bl (bs.any id)
  | _ => none
def sumD : GL := fun S ds => match ds with
  | [d] => (lstD S d).bind fun l => (intsD l).map fun bs => .int bs.sum
  | _ => none
def listD : GL := fun S ds => match ds with
  | [d] => (seqD S d).map .lst
  | _ => none
def tupleD : GL := fun S ds => match ds with
  | [d] => (seqD S d).map .tup
  | _ => none
section
variable {X : Cx}
theorem cD_len : CallR X (.builtin "len") (rL X.K lenD) := by
  intro pins s σ H xs us Q I r ⟨ρ, S, ds, z, hS, rd, e, q⟩
  unfold lenD at e
  split at e
  · split at e
    · rename_i x hl
      cases e
      obtain ⟨v, rfl, h1⟩ := rd.dest1
      cases h1
      exact call_len_str pins s σ H _ us Q I r ⟨_, rfl, by rw [sizeLine16]; exact hl, q ρ H _ hS .refl rfl⟩
    · cases e
  · rename_i d _
    cases hl : seqD S d with
    | none => rw [hl] at e; cases e
    | some l =>
      rw [hl] at e; cases e
      obtain ⟨v, rfl, h1⟩ := rd.dest1
      obtain ⟨p, vs, rfl, h2, h3⟩ := der_seq hS h1 hl
      exact call_len_seq pins s σ H _ us Q I r ⟨p, vs, rfl, h2.imp (·.1) (·.1.sq), q ρ H _ hS .refl (by show V.int _ = V.int _; rw [h3.length])⟩
  · cases e
theorem cD_abs : CallR X (.builtin "abs") (rL X.K absD) := by
  intro pins s σ H xs us Q I r ⟨ρ, S, ds, z, hS, rd, e, q⟩
  unfold absD at e
  split at e
  · cases e
    obtain ⟨v, rfl, h1⟩ := rd.dest1
    cases h1
    exact call_abs pins s σ H _ us Q I r ⟨_, rfl, q ρ H _ hS .refl rfl⟩
  · cases e
theorem cD_max2 (hc : X.calm = true) : CallR X (.builtin "max") (rL X.K max2D) := by
  intro pins s σ H xs us Q I r ⟨ρ, S, ds, z, hS, rd, e, q⟩
  unfold max2D at e
  split at e
  · cases e
    obtain ⟨v, u, rfl, h1, h2⟩ := rd.dest2
    cases h1; cases h2
    exact call_max2 hc pins s σ H _ us Q I r ⟨_, _, rfl, q ρ H _ hS .refl rfl⟩
  · cases e
theorem cD_min2 (hc : X.calm = true) : CallR X (.builtin "min") (rL X.K min2D) := by
  intro pins s σ H xs us Q I r ⟨ρ, S, ds, z, hS, rd, e, q⟩
  unfold min2D at e
  split at e
  · cases e
    obtain ⟨v, u, rfl, h1, h2⟩ := rd.dest2
    cases h1; cases h2
    exact call_min2 hc pins s σ H _ us Q I r ⟨_, _, rfl, q ρ H _ hS .refl rfl⟩
  · cases e
theorem cD_int : CallR X (.type "int") (rL X.K intfD) := by
  intro pins s σ H xs us Q I r ⟨ρ, S, ds, z, hS, rd, e, q⟩
  unfold intfD at e
  split at e
  · cases e
    obtain ⟨v, rfl, h1⟩ := rd.dest1
    cases h1
    exact call_int1 pins s σ H _ us Q I r (.inl ⟨_, rfl, q ρ H _ hS .refl rfl⟩)
  · cases e
    obtain ⟨v, rfl, h1⟩ := rd.dest1
    cases h1
    exact call_int1 pins s σ H _ us Q I r (.inr ⟨_, rfl, q ρ H _ hS .refl rfl⟩)
  · cases e
theorem cD_all (hc : X.calm = true) : CallR X (.builtin "all") (rL X.K allD) := by
  intro pins s σ H xs us Q I r ⟨ρ, S, ds, z, hS, rd, e, q⟩
  unfold allD at e
  split at e
  · rename_i d
    cases hl : lstD S d with
    | none => rw [hl] at e; cases e
    | some l =>
      rw [hl] at e
      cases hb : blsD l with
      | none => simp [hb] at e
      | some bs =>
        simp only [Option.bind_some, hb, Option.map_some, Option.some.injEq] at e
        subst e
        obtain ⟨v, rfl, h1⟩ := rd.dest1
        obtain ⟨p, vs, rfl, h2, h3⟩ := der_lst hS h1 hl
        have := h3.bls hb; subst this
        exact cr_all hc pins s σ H _ us Q I r ⟨p, bs, rfl, h2, q ρ H _ hS .refl rfl⟩
  · cases e
theorem cD_any (hc : X.calm = true) : CallR X (.builtin "any") (rL X.K anyD) := by
  intro pins s σ H xs us Q I r ⟨ρ, S, ds, z, hS, rd, e, q⟩
  unfold anyD at e
  split at e
  · rename_i d
    cases hl : lstD S d with
    | none => rw [hl] at e; cases e
    | some l =>
      rw [hl] at e
      cases hb : blsD l with
      | none => simp [hb] at e
      | some bs =>
        simp only [Option.bind_some, hb, Option.map_some, Option.some.injEq] at e
        subst e
        obtain ⟨v, rfl, h1⟩ := rd.dest1
        obtain ⟨p, vs, rfl, h2, h3⟩ := der_lst hS h1 hl
        have := h3.bls hb; subst this
        exact cr_any hc pins s σ H _ us Q I r ⟨p, bs, rfl, h2, q ρ H _ hS .refl rfl⟩
  · cases e
theorem cD_sum (hc : X.calm = true) : CallR X (.builtin "sum") (rL X.K sumD) := by
  intro pins s σ H xs us Q I r ⟨ρ, S, ds, z, hS, rd, e, q⟩
  unfold sumD at e
  split at e
  · rename_i d
    cases hl : lstD S d with
    | none => rw [hl] at e; cases e
    | some l =>
      rw [hl] at e
      cases hb : intsD l with
      | none => simp [hb] at e
      | some bs =>
        simp only [Option.bind_some, hb, Option.map_some, Option.some.injEq] at e
        subst e
        obtain ⟨v, rfl, h1⟩ := rd.dest1
        obtain ⟨p, vs, rfl, h2, h3⟩ := der_lst hS h1 hl
        have := h3.ints hb; subst this
        exact cr_sum hc pins s σ H _ us Q I r ⟨p, bs, rfl, h2, q ρ H _ hS .refl rfl⟩
  · cases e
theorem cD_list : CallR X (.type "list") (rL X.K listD) := by
  intro pins s σ H xs us Q I r ⟨ρ, S, ds, z, hS, rd, e, q⟩
  unfold listD at e
  split at e
  · rename_i d
    cases hl : seqD S d with
    | none => rw [hl] at e; cases e
    | some l =>
      rw [hl] at e; cases e
      obtain ⟨v, rfl, h1⟩ := rd.dest1
      obtain ⟨p, vs, rfl, h2, h3⟩ := der_seq hS h1 hl
      exact call_list_of pins s σ H _ us Q I r ⟨p, vs, rfl, h2.imp (·.1) (·.1.sq), fun l hl => new_lst hS h3 hl q⟩
  · cases e
theorem cD_tuple : CallR X (.type "tuple") (rL X.K tupleD) := by
  intro pins s σ H xs us Q I r ⟨ρ, S, ds, z, hS, rd, e, q⟩
  unfold tupleD at e
  split at e
  · rename_i d
    cases hl : seqD S d with
    | none => rw [hl] at e; cases e
    | some l =>
      rw [hl] at e; cases e
      obtain ⟨v, rfl, h1⟩ := rd.dest1
      obtain ⟨p, vs, rfl, h2, h3⟩ := der_seq hS h1 hl
      refine call_tuple_of pins s σ H _ us Q I r ⟨p, vs, rfl, ?_⟩
      rcases h2 with ⟨h2, _⟩ | ⟨h2, _⟩
      · exact .inl ⟨h2, fun l hl => new_tup hS h3 hl q⟩
      · exact .inr ⟨h2.sq, q ρ H _ hS .refl ⟨p, vs, rfl, h2, h3⟩⟩
  · cases e
end
/-! ### isinstance with built-in types -/
def D.tyn (S : Sto) : D → Option String
  | .non => some "NoneType"
  | .bl _ => some "bool"
  | .int _ => some "int"
  | .str _ => some "str"
  | .tup _ => some "tuple"
  | .lst _ => some "list"
  | .wls _ => some "list"
  | .loc n => match S[n]? with
    | some (.lst _) => some "list"
    | some (.dct _) => some "dict"
    | some (.dcT _) => some "dict"
    | _ => none
  | .dic _ _ => some "dict"
  | _ => none
/-- isinstance for the built-in types that are asked here -/
def isiB (a b : String) : Bool := a == b || (a == "bool" && b == "int")
def askTys : List String := ["int", "bool", "str", "tuple", "list", "dict"]
def isiD : GL := fun S ds => match ds with
  | [d, .ty b] => if askTys.contains b = true then (d.tyn S).map fun a => .bl (isiB a b) else none
  | [d, .tup l] => match l with
    | [.ty b, .ty c] => if askTys.contains b = true ∧ askTys.contains c = true then (d.tyn S).map fun a => .bl (isiB a b || isiB a c) else none
    | _ => none
  | _ => none
theorem kit_all {K : PySem.W.Frag} {a b : String} (ha : a ∈ ["NoneType", "bool", "int", "str", "tuple", "list", "dict"]) (hb : b ∈ askTys) : PySem.W.kitOne K (.type a) (.type b) = some (isiB a b) := by
  have h : ∀ a ∈ ["NoneType", "bool", "int", "str", "tuple", "list", "dict"], ∀ b ∈ askTys, kitB a b = some (isiB a b) := by decide +kernel
  exact kit_ty (h a ha b hb)
theorem tyx_of {K : PySem.W.Frag} {ρ : Rho} {S : Sto} {H : Hp} {d : D} {v : V} {a : String} (hS : SOk K ρ S H) (h : Rp K ρ H d v) (e : d.tyn S = some a) : TyX K H v (.type a) ∧ a ∈ ["NoneType", "bool", "int", "str", "tuple", "list", "dict"] := by
  cases d with
  | non => cases h; cases e; exact ⟨.base .non, by decide⟩
  | bl b => cases h; cases e; exact ⟨.base (.bl b), by decide⟩
  | int b => cases h; cases e; exact ⟨.base (.int b), by decide⟩
  | str b => cases h; cases e; exact ⟨.base (.str b), by decide⟩
  | tup l =>
    cases e
    obtain ⟨p, vs, rfl, h1, _⟩ := h
    refine ⟨?_, by decide⟩
    rcases h1 with h1 | ⟨o, its, n, hk, hc, _⟩
    · exact .base (.tup h1)
    · exact .kTuple hk hc
  | lst l =>
    cases e
    obtain ⟨p, vs, rfl, h1, _⟩ := h
    exact ⟨.base (.lst h1), by decide⟩
  | wls l =>
    cases e
    obtain ⟨p, vs, rfl, h1, _⟩ := h
    refine ⟨?_, by decide⟩
    rcases h1 with ⟨o, h1⟩ | ⟨o, its, n, hk, hc, _⟩
    · exact .base (.frz h1)
    · exact .kList hk hc
  | dic ks l =>
    cases e
    obtain ⟨p, vs, rfl, h1, _⟩ := h
    exact ⟨.base (.dK h1), by decide⟩
  | loc n =>
    obtain ⟨p, rfl, h1⟩ := h
    unfold D.tyn at e
    simp only at e
    cases hn : S[n]? with
    | none => rw [hn] at e; cases e
    | some o =>
      obtain ⟨a1, e2, ok⟩ := hS.obj n _ hn
      rw [h1] at e2; cases e2
      rw [hn] at e
      cases o with
      | lst l => cases e; obtain ⟨vs, h2, _⟩ := ok; exact ⟨.base (.lst h2), by decide⟩
      | dct l => cases e; obtain ⟨vs, h2, _⟩ := ok; exact ⟨.base (.dK h2), by decide⟩
      | dcT l => cases e; obtain ⟨vs, h2, _⟩ := ok; exact ⟨.base (.dT h2), by decide⟩
      | ins C l => cases e
  | _ => cases e
section
variable {X : Cx}
theorem cD_isi : CallR X (.builtin "isinstance") (rL X.K isiD) := by
  intro pins s σ H xs us Q I r ⟨ρ, S, ds, z, hS, rd, e, q⟩
  unfold isiD at e
  split at e
  · rename_i d b
    split at e
    · rename_i hb
      obtain ⟨v, u, rfl, h1, h2⟩ := rd.dest2
      cases h2
      cases ha : d.tyn S with
      | none => rw [ha] at e; cases e
      | some a =>
        rw [ha] at e; cases e
        obtain ⟨t1, t2⟩ := tyx_of hS h1 ha
        exact call_isi pins s σ H _ us Q I r ⟨v, _, _, _, _, rfl, .ty b, t1, kit_all t2 (by simpa using hb), q ρ H _ hS .refl rfl⟩
    · cases e
  · rename_i d l
    split at e
    · rename_i b c
      split at e
      · rename_i hb
        obtain ⟨v, u, rfl, h1, p, vs, rfl, h2, h3⟩ := rd.dest2
        obtain ⟨v1, v2, rfl, h4, h5⟩ := h3.dest2
        cases h4; cases h5
        cases ha : d.tyn S with
        | none => rw [ha] at e; cases e
        | some a =>
          rw [ha] at e; cases e
          obtain ⟨t1, t2⟩ := tyx_of hS h1 ha
          have k1 := kit_all (K := X.K) t2 (show b ∈ askTys by simpa using hb.1)
          have k2 := kit_all (K := X.K) t2 (show c ∈ askTys by simpa using hb.2)
          have k3 : PySem.W.kitAny X.K (.type a) [.type b, .type c] = some (isiB a b || isiB a c) := by
            refine kitAny_cons k1 (fun e1 => kitAny_cons k2 (fun e2 => ?_) fun e2 => ?_) fun e1 => by rw [e1]; rfl
            · rw [e1, e2]; exact kitAny_nil
            · rw [e1, e2]; rfl
          have pc : Paired ClsV [V.ty b, V.ty c] [.type b, .type c] := .cons (.ty b) (.cons (.ty c) .nil)
          rcases h2 with h2 | ⟨⟨oc, od, dt, sl⟩, its, n, hk, hc, hd, hz, hv⟩
          · exact call_isiT pins s σ H _ us Q I r ⟨v, p, _, _, [.type b, .type c], _, rfl, h2, pc, t1, k3, q ρ H _ hS .refl rfl⟩
          · simp only at hc hd
            subst hc hd
            have e4 := ClsV.all pc hv
            refine call_isiK pins s σ H _ us Q I r ⟨v, p, od, [.type b, .type c], n, sl, _, _, rfl, ?_, t1, k3, q ρ H _ hS .refl rfl⟩
            rw [hk, ← e4]
      · cases e
    · cases e
  · cases e
end
end Mi

namespace Mi
open PySem PySem.Spec PyProof.Rows L2
inductive RS where
  | nx (env : En) (S : Sto) | rt (d : D) (S : Sto) | bk (env : En) (S : Sto) | ct (env : En) (S : Sto) | exc (C : Addr) (fs : List (Str × D)) (env : En) (S : Sto) | bad
abbrev SM := En → Sto → RS
def RS.of {α : Type} (r : R α) (env : En) (f : α → Sto → RS) : RS := match r with
  | .ok a S => f a S
  | .exc C fs S => .exc C fs env S
  | .bad => .bad
@[simp] theorem RS.of_ok {α : Type} {a : α} {S : Sto} {env : En} {f : α → Sto → RS} : RS.of (R.ok a S) env f = f a S := rfl
@[simp] theorem RS.of_exc {α : Type} {C fs S} {env : En} {f : α → Sto → RS} : RS.of (R.exc C fs S : R α) env f = .exc C fs env S := rfl
@[simp] theorem RS.of_bad {α : Type} {env : En} {f : α → Sto → RS} : RS.of (R.bad : R α) env f = .bad := rfl
/-- a block: what follows a statement that ends by itself -/
def RS.seq (r : RS) (f : SM) : RS := match r with
  | .nx env S => f env S
  | r => r
@[simp] theorem RS.seq_nx {env S} {f : SM} : (RS.nx env S).seq f = f env S := rfl
@[simp] theorem RS.seq_rt {d S} {f : SM} : (RS.rt d S).seq f = .rt d S := rfl
@[simp] theorem RS.seq_bk {env S} {f : SM} : (RS.bk env S).seq f = .bk env S := rfl
@[simp] theorem RS.seq_ct {env S} {f : SM} : (RS.ct env S).seq f = .ct env S := rfl
@[simp] theorem RS.seq_exc {C fs env S} {f : SM} : (RS.exc C fs env S).seq f = .exc C fs env S := rfl
@[simp] theorem RS.seq_bad {f : SM} : RS.bad.seq f = .bad := rfl
section
variable {K : PySem.W.Frag} {W : WX} {ρ ρ' : Rho} {S S' : Sto} {H H' : Hp} {env : En} {σ : L2.St}
def SPost (K : PySem.W.Frag) (W : WX) (T : Ends) (ρ : Rho) (H : Hp) (r : RS) : Prop := match r with
  | .nx env' S' => ∀ ρ' H' σ', SOk K ρ' S' H' → Stp ρ ρ' H H' → EOk K ρ' H' env' σ' → T.nx σ' H'
  | .rt d S' => ∀ ρ' H' v, SOk K ρ' S' H' → Stp ρ ρ' H H' → Rp K ρ' H' d v → T.rt v H'
  | .bk env' S' => ∀ ρ' H' σ', SOk K ρ' S' H' → Stp ρ ρ' H H' → EOk K ρ' H' env' σ' → T.bk σ' H'
  | .ct env' S' => ∀ ρ' H' σ', SOk K ρ' S' H' → Stp ρ ρ' H H' → EOk K ρ' H' env' σ' → T.ct σ' H'
  | .exc C fs env' S' => ∀ ρ' H' σ' d vs, SOk K ρ' S' H' → Stp ρ ρ' H H' → EOk K ρ' H' env' σ' → ρ'.no d → H' d = some (.xd vs) → KVs K ρ' H' fs vs → W (.ref C) (some d) σ' H'
  | .bad => False
def tSt (K : PySem.W.Frag) (W : WX) (m : SM) : TS := fun T σ H => ∃ ρ S env, SOk K ρ S H ∧ EOk K ρ H env σ ∧ SPost K W T ρ H (m env S)
theorem SPost.step {T : Ends} {r : RS} (st : Stp ρ ρ' H H') (h : SPost K W T ρ H r) : SPost K W T ρ' H' r := by
  cases r with
  | nx env S => exact fun ρ2 H2 σ2 h1 h2 h3 => h ρ2 H2 σ2 h1 (st.trans h2) h3
  | rt d S => exact fun ρ2 H2 σ2 h1 h2 h3 => h ρ2 H2 σ2 h1 (st.trans h2) h3
  | bk env S => exact fun ρ2 H2 σ2 h1 h2 h3 => h ρ2 H2 σ2 h1 (st.trans h2) h3
  | ct env S => exact fun ρ2 H2 σ2 h1 h2 h3 => h ρ2 H2 σ2 h1 (st.trans h2) h3
  | exc C fs env S => exact fun ρ2 H2 σ2 d vs h1 h2 h3 h4 h5 h6 => h ρ2 H2 σ2 d vs h1 (st.trans h2) h3 h4 h5 h6
  | bad => exact h
/-- an expression ahead of a statement's end -/
theorem SPost.bindK {α β : Type} {rel : Rel α β} {m : En → Sto → R α} {f : α → Sto → RS} {T : Ends} {Q1 : β → Hp → Prop} (hS : SOk K ρ S H) (hE : EOk K ρ H env σ)
    (h : SPost K W T ρ H (RS.of (m env S) env f))
    (k : ∀ v H1 ρ1 S1 a, SOk K ρ1 S1 H1 → EOk K ρ1 H1 env σ → Stp ρ ρ1 H H1 → rel ρ1 H1 a v → SPost K W T ρ1 H1 (f a S1) → Q1 v H1) :
    tG K W rel m σ H Q1 := by
  refine ⟨ρ, S, env, hS, hE, ?_⟩
  revert h
  generalize m env S = r
  intro h
  cases r with
  | ok a S1 => exact fun ρ2 H2 v h1 h2 h3 => k v H2 ρ2 S1 a h1 (hE.step hS h2) h2 h3 (h.step h2)
  | exc C fs S1 => exact fun ρ2 H2 d vs h1 h2 h3 h4 h5 => h ρ2 H2 σ d vs h1 h2 (hE.step hS h2) h3 h4 h5
  | bad => exact h
theorem EOk.set {d : D} {v : V} {i : Nat} (h : EOk K ρ H env σ) (r : Rp K ρ H d v) : EOk K ρ H (env.set i (some d)) (σ.set i (some v)) := by
  refine ⟨by rw [List.length_set, List.length_set]; exact h.len, fun j e hj => ?_⟩
  by_cases hij : i = j
  · subst hij
    have hl : i < env.length := by
      have := (List.getElem?_eq_some_iff.mp hj).1
      simpa using this
    have hl2 : i < σ.length := by rw [← h.len]; exact hl
    rw [List.getElem?_set_self hl] at hj
    cases hj
    exact ⟨v, List.getElem?_set_self hl2, r⟩
  · rw [List.getElem?_set_ne hij] at hj
    obtain ⟨w, h1, h2⟩ := h.val j e hj
    exact ⟨w, by rw [List.getElem?_set_ne hij]; exact h1, h2⟩
theorem EOk.drop1 {i : Nat} (h : EOk K ρ H env σ) : EOk K ρ H (env.set i none) (σ.set i none) := by
  refine ⟨by rw [List.length_set, List.length_set]; exact h.len, fun j e hj => ?_⟩
  by_cases hij : i = j
  · subst hij
    have hl : i < env.length := by
      have := (List.getElem?_eq_some_iff.mp hj).1
      simpa using this
    rw [List.getElem?_set_self hl] at hj
    cases hj
  · rw [List.getElem?_set_ne hij] at hj
    obtain ⟨w, h1, h2⟩ := h.val j e hj
    exact ⟨w, by rw [List.getElem?_set_ne hij]; exact h1, h2⟩
end
structure DS (X : Cx) (W : WX) (st : Stmt) (m : SM) : Prop where
  p : PS X st (tSt X.K W m)
structure DB (X : Cx) (W : WX) (st : List Stmt) (m : SM) : Prop where
  p : PSs X st (tSt X.K W m)
/-! ### blocks and small statements -/
def sNil : SM := fun env S => .nx env S
def sSeq (m n : SM) : SM := fun env S => (m env S).seq n
def sRet (m : TM) : SM := fun env S => RS.of (m env S) env fun d S1 => .rt d S1
def sRetN : SM := fun _ S => .rt .non S
def sIf (t : BM) (m n : SM) : SM := fun env S => RS.of (t env S) env fun b S1 => if b = true then m env S1 else n env S1
def sDrop (m : TM) : SM := fun env S => RS.of (m env S) env fun _ S1 => .nx env S1
def sBk : SM := fun env S => .bk env S
def sCt : SM := fun env S => .ct env S
def sBad : SM := fun _ _ => .bad
section
variable {X : Cx} {W : WX} {st : Stmt} {rest : List Stmt} {m n : SM} {e c : Expr} {me : TM} {mc : BM} {pos : Pos} {x y : List Stmt}
theorem b_nil : DB X W [] sNil := ⟨PSs.imp pss_nil fun T σ H ⟨ρ, S, env, hS, hE, h⟩ => h ρ H σ hS .refl hE⟩
theorem b_cons (h : DS X W st m) (k : DB X W rest n) : DB X W (st :: rest) (sSeq m n) :=
  ⟨PSs.imp (pss_cons h.p k.p) fun T σ H ⟨ρ, S, env, hS, hE, h⟩ => ⟨ρ, S, env, hS, hE, by
    unfold sSeq at h
    revert h
    generalize m env S = r
    intro h
    cases r with
    | nx env1 S1 => exact fun ρ1 H1 σ1 h1 h2 h3 => ⟨ρ1, S1, env1, h1, h3, h.step h2⟩
    | rt d S1 => exact h
    | bk env1 S1 => exact h
    | ct env1 S1 => exact h
    | exc C fs env1 S1 => exact h
    | bad => exact h⟩⟩
theorem b_one (h : DS X W st m) : DB X W [st] m := ⟨pss_one h.p⟩
theorem s_ret (h : DE X W e me) : DS X W (.Return (some e) pos) (sRet me) :=
  ⟨PS.imp (ps_ret h.p) fun T σ H ⟨ρ, S, env, hS, hE, h⟩ => SPost.bindK hS hE h fun v H1 ρ1 S1 a h1 h2 h3 h4 h5 => h5 ρ1 H1 v h1 .refl h4⟩
theorem s_retN : DS X W (.Return none pos) sRetN := ⟨PS.imp ps_retN fun T σ H ⟨ρ, S, env, hS, hE, h⟩ => h ρ H .non hS .refl rfl⟩
theorem s_if (hc : DT X W c mc) (ha : DB X W x m) (hb : DB X W y n) : DS X W (.If c x y pos) (sIf mc m n) :=
  ⟨PS.imp (ps_if hc.p ha.p hb.p) fun T σ H ⟨ρ, S, env, hS, hE, h⟩ => SPost.bindK hS hE h fun v H1 ρ1 S1 a h1 h2 h3 h4 h5 => by
    cases h4
    cases v with
    | true => exact ⟨ρ1, S1, env, h1, h2, h5⟩
    | false => exact ⟨ρ1, S1, env, h1, h2, h5⟩⟩
theorem s_drop (h : DE X W e me) (hs : swapsWith e none pos.line X.env = pure false := by rfl) : DS X W (.Expr e pos) (sDrop me) :=
  ⟨PS.imp (ps_expr h.p hs) fun T σ H ⟨ρ, S, env, hS, hE, h⟩ => SPost.bindK hS hE h fun v H1 ρ1 S1 a h1 h2 h3 h4 h5 => h5 ρ1 H1 σ h1 .refl h2⟩
theorem s_pass : DS X W (.Pass pos) sNil := ⟨PS.imp ps_pass fun T σ H ⟨ρ, S, env, hS, hE, h⟩ => h ρ H σ hS .refl hE⟩
theorem s_bk : DS X W (.Break pos) sBk := ⟨PS.imp ps_break fun T σ H ⟨ρ, S, env, hS, hE, h⟩ => h ρ H σ hS .refl hE⟩
theorem s_ct : DS X W (.Continue pos) sCt := ⟨PS.imp ps_continue fun T σ H ⟨ρ, S, env, hS, hE, h⟩ => h ρ H σ hS .refl hE⟩
/-- a statement, a block that the proof never comes to -/
theorem s_bad : DS X W st sBad := ⟨PS.imp ps_never fun T σ H ⟨ρ, S, env, hS, hE, h⟩ => h⟩
end
/-! ### targets -/
abbrev GM := D → En → Sto → R En
def relE : Rel En L2.St := fun ρ H env σ => True
/-- what a target's slots may change -/
def Chg (is : List Nat) (σ σ' : L2.St) : Prop := σ'.length = σ.length ∧ ∀ i, i ∉ is → σ'[i]? = σ[i]?
def gD (K : PySem.W.Frag) (is : List Nat) (g : GM) : TG := fun v σ H Q => ∃ ρ S env d, SOk K ρ S H ∧ EOk K ρ H env σ ∧ Rp K ρ H d v ∧ ∃ env' S', g d env S = .ok env' S' ∧
  ∀ ρ' H' σ', SOk K ρ' S' H' → Stp ρ ρ' H H' → EOk K ρ' H' env' σ' → Chg is σ σ' → Q σ' H'
structure DG (X : Cx) (is : List Nat) (e : Expr) (g : GM) : Prop where
  p : PG X e (gD X.K is g)
theorem PG.imp {X : Cx} {e : Expr} {t t' : TG} (h : PG X e t) (i : ∀ v σ H Q, t' v σ H Q → t v σ H Q) : PG X e t' := ⟨fun pins s σ H v u Q I r q => h.run pins s σ H v u Q I r (i v σ H Q q)⟩
def gN (i : Nat) : GM := fun d env S => .ok (env.set i (some d)) S
def gT (gs : List GM) : GM := fun d env S => match seqD S d with
  | some l => go gs l env S
  | none => .bad
where go : List GM → List D → En → Sto → R En
  | [], [], env, S => .ok env S
  | g :: gs, d :: ds, env, S => (g d env S).bind fun env1 S1 => go gs ds env1 S1
  | _, _, _, _ => .bad
/-- several targets -/
def gsD (K : PySem.W.Frag) (is : List Nat) (gs : List GM) : TGs := fun vs σ H Q => ∃ ρ S env ds, SOk K ρ S H ∧ EOk K ρ H env σ ∧ Rps K ρ H ds vs ∧ ∃ env' S', gT.go gs ds env S = .ok env' S' ∧
  ∀ ρ' H' σ', SOk K ρ' S' H' → Stp ρ ρ' H H' → EOk K ρ' H' env' σ' → Chg is σ σ' → Q σ' H'
structure DGs (X : Cx) (is : List Nat) (es : List Expr) (gs : List GM) : Prop where
  p : PGs X es (gsD X.K is gs)
  n : gs.length = (assignEach es X.env).length
theorem PGs.imp {X : Cx} {e : List Expr} {t t' : TGs} (h : PGs X e t) (i : ∀ v σ H Q, t' v σ H Q → t v σ H Q) : PGs X e t' := ⟨fun pins s σ H v u Q I r q => h.run pins s σ H v u Q I r (i v σ H Q q)⟩
section
variable {X : Cx} {W : WX} {pos : Pos} {is js : List Nat} {e : Expr} {es : List Expr} {g : GM} {gs : List GM}
theorem Chg.refl {is : List Nat} {σ : L2.St} : Chg is σ σ := ⟨rfl, fun _ _ => rfl⟩
theorem Chg.trans {σ σ1 σ2 : L2.St} (a : Chg is σ σ1) (b : Chg js σ1 σ2) : Chg (is ++ js) σ σ2 :=
  ⟨b.1.trans a.1, fun i h => by
    rw [List.mem_append] at h
    rw [b.2 i fun z => h (.inr z), a.2 i fun z => h (.inl z)]⟩
theorem g_name {i : Nat} {x : Str} (hN : X.N.Nodup) (hi : X.N[i]? = some x) (hx : Loc X.env.scope x) (hf : X.fn x = true ∨ X.env.scope.names.lookup x = some .local) : DG X [i] (.Name x pos) (gN i) :=
  ⟨PG.imp (pg_name hN hi hx hf) fun v σ H Q ⟨ρ, S, env, d, hS, hE, r, env', S', e, q⟩ => by
    cases e
    refine q ρ H _ hS .refl (hE.set r) ⟨List.length_set, fun j hj => ?_⟩
    rw [List.getElem?_set_ne]
    intro z; subst z; exact hj List.mem_cons_self⟩
theorem gs_nil : DGs X [] [] [] := by
  refine ⟨PGs.imp pgs_nil fun vs σ H Q ⟨ρ, S, env, ds, hS, hE, r, env', S', e, q⟩ => ?_, rfl⟩
  cases ds with
  | nil => cases r; cases e; exact ⟨rfl, q ρ H σ hS .refl hE .refl⟩
  | cons d ds => cases e
theorem gs_cons (h : DG X is e g) (k : DGs X js es gs) (hs : (assignEach (e :: es) X.env).map (·.2) = assign e X.env :: (assignEach es X.env).map (·.2) := by rfl) : DGs X (is ++ js) (e :: es) (g :: gs) := by
  refine ⟨PGs.imp (pgs_cons h.p k.p hs) fun vs σ H Q ⟨ρ, S, env, ds, hS, hE, r, env', S', e, q⟩ => ?_, ?_⟩
  · cases ds with
    | nil => cases e
    | cons d ds =>
      obtain ⟨v, vr, rfl, h1, h2⟩ := r
      unfold gT.go at e
      cases hg : g d env S with
      | ok env1 S1 =>
        rw [hg] at e
        refine ⟨v, vr, rfl, ρ, S, env, d, hS, hE, h1, env1, S1, hg, fun ρ1 H1 σ1 hS1 st1 hE1 c1 => ?_⟩
        exact ⟨ρ1, S1, env1, ds, hS1, hE1, Rps.step hS st1 ds vr h2, env', S', e, fun ρ2 H2 σ2 hS2 st2 hE2 c2 => q ρ2 H2 σ2 hS2 (st1.trans st2) hE2 (c1.trans c2)⟩
      | exc C fs S1 => rw [hg] at e; cases e
      | bad => rw [hg] at e; cases e
  · have := congrArg List.length hs
    simp at this
    rw [List.length_cons, k.n, this]
theorem go_length : ∀ {gs : List GM} {ds : List D} {env env' : En} {S S' : Sto}, gT.go gs ds env S = .ok env' S' → ds.length = gs.length
  | [], [], _, _, _, _, _ => rfl
  | g :: gs, d :: ds, env, _, S, _, h => by
    unfold gT.go at h
    cases hg : g d env S with
    | ok env1 S1 => rw [hg] at h; rw [List.length_cons, List.length_cons, go_length h]
    | exc C fs S1 => rw [hg] at h; cases h
    | bad => rw [hg] at h; cases h
  | [], _ :: _, _, _, _, _, h => by cases h
  | _ :: _, [], _, _, _, _, h => by cases h
theorem PG.or {t t' : TG} (h : PG X e t) (k : PG X e t') : PG X e (fun v σ H Q => t v σ H Q ∨ t' v σ H Q) :=
  ⟨fun pins s σ H v u Q I r q => q.elim (h.run pins s σ H v u Q I r) (k.run pins s σ H v u Q I r)⟩
theorem g_tup {k : Nat} (hc : X.calm = true) (h : DGs X is es gs) (hst : (assignEach es X.env).findIdx? (·.1) = none := by rfl) : DG X is (.Tuple es k pos) (gT gs) :=
  ⟨PG.imp (PG.or (pg_tup hc h.p rfl hst) (pg_unl hc h.p rfl hst)) fun v σ H Q ⟨ρ, S, env, d, hS, hE, r, env', S', e, q⟩ => by
    unfold gT at e
    cases hl : seqD S d with
    | none => rw [hl] at e; cases e
    | some l =>
      rw [hl] at e
      obtain ⟨p, vs, rfl, h1, h2⟩ := der_seq hS r hl
      have hn : vs.length = (assignEach es X.env).length := by rw [← h2.length, go_length e, h.n]
      rcases h1 with ⟨h1, _⟩ | ⟨h1, _⟩
      · exact .inr ⟨p, vs, rfl, h1, hn, ρ, S, env, l, hS, hE, h2, env', S', e, q⟩
      · exact .inl ⟨p, vs, rfl, h1.sq, hn, ρ, S, env, l, hS, hE, h2, env', S', e, q⟩⟩
end
end Mi

namespace Mi
open PySem PySem.Spec PyProof.Rows L2
section
variable {K : PySem.W.Frag} {ρ ρ' : Rho} {S S' : Sto} {H H' : Hp} {a : Addr} {n : Nat} {o : O} {ho : HO}
/-- an object of the store is written -/
theorem upd_step (e : ρ.m n = some a) : Stp ρ ρ H (upd H a ho) where
  up _ _ h := h
  new _ _ h := .inl h
  pv _ h := .inl h
  pvu _ h := h
  keep b u h hn := by rw [upd_ne (fun z => hn n (by rw [z]; exact e))]; exact h
  live b h := upd_live h
theorem SOk.write (hS : SOk K ρ S H) (e : ρ.m n = some a) (ok : OOk K ρ (upd H a ho) a o) : SOk K ρ (S.set n o) (upd H a ho) := by
  have st : Stp ρ ρ H (upd H a ho) := upd_step e
  refine ⟨hS.inj, fun m b h => by rw [List.length_set]; exact hS.dom m b h, fun m o' h => ?_, fun b h => ?_⟩
  · by_cases hm : n = m
    · subst hm
      have hl := hS.dom n a e
      rw [List.getElem?_set_self hl] at h
      cases h
      exact ⟨a, e, ok⟩
    · rw [List.getElem?_set_ne hm] at h
      obtain ⟨b, hb, ok'⟩ := hS.obj m o' h
      refine ⟨b, hb, ok'.step hS st (upd_ne fun z => ?_)⟩
      subst z
      exact hm (hS.inj n m b e hb)
  · obtain ⟨⟨u, h1, h2⟩, h3⟩ := hS.prv b h
    exact ⟨⟨u, by rw [upd_ne (fun z => h3 n (by rw [z]; exact e))]; exact h1, h2⟩, h3⟩
theorem KVs.length {κ : Type} : ∀ {l : List (κ × D)} {vs : List (κ × V)}, KVs K ρ H l vs → l.length = vs.length
  | [], _, h => by cases h; rfl
  | d :: ds, _, h => by obtain ⟨v, r, rfl, _, h2⟩ := h; simp [KVs.length h2]
end
def putD {κ : Type} [DecidableEq κ] (l : List (κ × D)) (k : κ) (v : D) : List (κ × D) :=
  if (l.any fun kv => decide (kv.1 = k)) = true then l.map fun kv => if kv.1 = k then (kv.1, v) else kv else l ++ [(k, v)]
section
variable {K : PySem.W.Frag} {ρ ρ' : Rho} {S S' : Sto} {H H' : Hp}
theorem KVs.put {κ : Type} [DecidableEq κ] {l : List (κ × D)} {vs : List (κ × V)} {k : κ} {d : D} {v : V} (h : KVs K ρ H l vs) (r : Rp K ρ H d v) : KVs K ρ H (putD l k d) (putK vs k v) := by
  have any : ∀ {l : List (κ × D)} {vs : List (κ × V)}, KVs K ρ H l vs → (l.any fun kv => decide (kv.1 = k)) = vs.any fun kv => decide (kv.1 = k) := by
    intro l
    induction l with
    | nil => intro vs h; cases h; rfl
    | cons d ds ih => intro vs h; obtain ⟨v, r, rfl, _, h2⟩ := h; rw [List.any_cons, List.any_cons, ih h2]
  have map : ∀ {l : List (κ × D)} {vs : List (κ × V)}, KVs K ρ H l vs → KVs K ρ H (l.map fun kv => if kv.1 = k then (kv.1, d) else kv) (vs.map fun kv => if kv.1 = k then (kv.1, v) else kv) := by
    intro l
    induction l with
    | nil => intro vs h; cases h; rfl
    | cons e ds ih =>
      intro vs h
      obtain ⟨w, t, rfl, h1, h2⟩ := h
      rw [List.map_cons, List.map_cons]
      by_cases q : e.1 = k
      · simp only [q, if_true]
        exact ⟨v, _, rfl, r, ih h2⟩
      · simp only [q, if_false]
        exact ⟨w, _, rfl, h1, ih h2⟩
  have app : ∀ {l : List (κ × D)} {vs : List (κ × V)}, KVs K ρ H l vs → KVs K ρ H (l ++ [(k, d)]) (vs ++ [(k, v)]) := by
    intro l
    induction l with
    | nil => intro vs h; cases h; exact ⟨v, [], rfl, r, rfl⟩
    | cons e ds ih => intro vs h; obtain ⟨w, t, rfl, h1, h2⟩ := h; exact ⟨w, _, rfl, h1, ih h2⟩
  unfold putD putK
  rw [any h]
  split
  · exact map h
  · exact app h
end
/-! ### o[i] = v -/
def setD (S : Sto) (o i v : D) : Option Sto := match o with
  | .loc n => match S[n]? with
    | some (.lst l) => (intD i).bind fun k => (ixN l.length k).map fun j => S.set n (.lst (l.set j v))
    | some (.dct l) => if l.length < 16777216 then (keyD i).map fun k => S.set n (.dct (putD l k v)) else none
    | _ => none
  | _ => none
def rSetD (K : PySem.W.Frag) : V → V → V → Hp → (Hp → Prop) → Prop := fun o i v H Q => ∃ ρ S a b c S', SOk K ρ S H ∧ Rp K ρ H a o ∧ Rp K ρ H b i ∧ Rp K ρ H c v ∧ setD S a b c = some S' ∧
  ∀ ρ' H', SOk K ρ' S' H' → Stp ρ ρ' H H' → Q H'
theorem setD_ok {X : Cx} (hu : X.A.units + 1 < cLine) : PSet X (rSetD X.K) := by
  intro pins s σ H o i v ov iv u Q I ro ri rv ⟨ρ, S, a, b, c, S', hS, ra, rb, rc, e, q⟩
  unfold setD at e
  cases a with
  | loc n =>
    obtain ⟨p, rfl, h1⟩ := ra
    simp only at e
    cases hn : S[n]? with
    | none => rw [hn] at e; cases e
    | some ob =>
      obtain ⟨a1, e1, ok⟩ := hS.obj n _ hn
      rw [h1] at e1; cases e1
      rw [hn] at e
      cases ob with
      | lst l =>
        obtain ⟨xs, hx, r1⟩ := ok
        obtain ⟨k, rfl, e⟩ := rb.int' e
        cases hj : ixN l.length k with
        | none => rw [hj] at e; cases e
        | some j =>
          rw [hj] at e; cases e
          refine set_list pins s σ H _ _ v ov iv u Q I ro ri rv ⟨p, xs, k, j, rfl, rfl, hx, by rw [← r1.length]; exact hj, ?_⟩
          have st : Stp ρ ρ H (upd H p (.lst (xs.set j v))) := upd_step h1
          exact q ρ _ (hS.write h1 ⟨_, upd_same, Rps.step hS st _ _ (r1.set j rc)⟩) st
      | dct l =>
        obtain ⟨xs, hx, r1⟩ := ok
        simp only at e
        split at e
        · rename_i hl
          cases hk : keyD b with
          | none => rw [hk] at e; cases e
          | some k =>
            rw [hk] at e; cases e
            have ey := rb.key hk
            subst ey
            cases ro
            have st : Stp ρ ρ H (upd H p (.dK (putK xs k v))) := upd_step h1
            exact d_setItem hu I (DPut.k hx (by rw [sizeLine16, ← r1.length]; exact hl)) ri rv fun s4 I4 => ⟨_, I4, q ρ _ (hS.write h1 ⟨_, upd_same, KVs.step hS st _ _ (r1.put rc)⟩) st⟩
        · cases e
      | _ => cases e
  | _ => cases e
/-- a store to o[i] as a target: mo, mi are read behind the value -/
def gSet (mo mi : TM) : GM := fun d env S => (mo env S).bind fun o S1 => (mi env S1).bind fun i S2 => match setD S2 o i d with
  | some S3 => .ok env S3
  | none => .bad
section
variable {X : Cx} {W : WX} {pos pos' : Pos} {e o i tg : Expr} {me mo mi : TM} {is : List Nat} {g : GM} {n m : AM}
def W0 : WX := fun _ _ _ _ => False
/-- what is read without an exception -/
theorem noexc {α β : Type} {K : PySem.W.Frag} {rel : Rel α β} {ρ : Rho} {H : Hp} {σ : L2.St} {a : α} {S : Sto} {Q : β → Hp → Prop}
    (h : ∀ ρ' H' v, SOk K ρ' S H' → Stp ρ ρ' H H' → rel ρ' H' a v → Q v H') : Post K W0 rel ρ H σ (.ok a S) Q := h
theorem g_set (hu : X.A.units + 1 < cLine) (ho : DE X W0 o mo) (hi : DE X W0 i mi)
    (ha : ∀ v, assign (.Subscript o i pos) X.env v = (do
      let ov ← holding [v] (eval o X.env)
      let iv ← holding [v, ov] (eval i X.env)
      standAt pos
      holding [v, ov, iv] (setItem ov iv v)
      release [v, ov, iv] []) := by intro _; rfl) : DG X [] (.Subscript o i pos) (gSet mo mi) :=
  ⟨PG.imp (pg_sub ho.p hi.p (setD_ok hu) ha) fun v σ H Q ⟨ρ, S, env, d, hS, hE, r, env', S', e, q⟩ => by
    unfold gSet at e
    refine ⟨ρ, S, env, hS, hE, ?_⟩
    cases h1 : mo env S with
    | ok ob S1 =>
      rw [h1] at e
      intro ρ1 H1 v1 hS1 st1 r1
      refine ⟨ρ1, S1, env, hS1, hE.step hS st1, ?_⟩
      simp only [R.bind_ok] at e
      cases h2 : mi env S1 with
      | ok ib S2 =>
        rw [h2] at e
        intro ρ2 H2 v2 hS2 st2 r2
        simp only [R.bind_ok] at e
        cases h3 : setD S2 ob ib d with
        | none => rw [h3] at e; cases e
        | some S3 =>
          rw [h3] at e; cases e
          refine ⟨ρ2, S2, ob, ib, d, S', hS2, r1.step hS1 st2, r2, (r.step hS st1).step hS1 st2, h3, fun ρ3 H3 hS3 st3 => ?_⟩
          exact q ρ3 H3 σ hS3 ((st1.trans st2).trans st3) (((hE.step hS st1).step hS1 st2).step hS2 st3) .refl
      | exc C fs S2 => rw [h2] at e; cases e
      | bad => rw [h2] at e; cases e
    | exc C fs S1 => rw [h1] at e; cases e
    | bad => rw [h1] at e; cases e⟩
/-! ### assignments -/
def sAsg (m : TM) (g : GM) : SM := fun env S => RS.of (m env S) env fun d S1 => match g d env S1 with
  | .ok env' S' => .nx env' S'
  | _ => .bad
theorem s_asg (he : DE X W e me) (hg : DG X is tg g) (hs : swapsWithSole [tg] e pos.line X.env = pure false := by rfl) (hw : swappedStores [tg] e X.env = pure none := by rfl)
    (h1 : (assignEach [tg] X.env).map (·.2) = [assign tg X.env] := by rfl) : DS X W (.Assign [tg] e pos) (sAsg me g) :=
  ⟨PS.imp (ps_asg he.p hg.p hs hw h1) fun T σ H ⟨ρ, S, env, hS, hE, h⟩ => SPost.bindK hS hE h fun v H1 ρ1 S1 a h1 h2 h3 h4 h5 => by
    cases hg : g a env S1 with
    | ok env' S' => rw [hg] at h5; exact ⟨ρ1, S1, env, a, h1, h2, h4, env', S', hg, fun ρ2 H2 σ2 q1 q2 q3 _ => h5 ρ2 H2 σ2 q1 q2 q3⟩
    | exc C fs S' => rw [hg] at h5; exact h5.elim
    | bad => rw [hg] at h5; exact h5.elim⟩
theorem s_set {i : Nat} {x : Str} (hN : X.N.Nodup) (hi : X.N[i]? = some x) (hx : Loc X.env.scope x) (hf : X.fn x = true ∨ X.env.scope.names.lookup x = some .local) (he : DE X W e me)
    (hs : swapsWith e (some (.Name x pos')) pos.line X.env = pure false := by rfl) : DS X W (.Assign [.Name x pos'] e pos) (sAsg me (gN i)) :=
  ⟨PS.imp (ps_set hN hi hx he.p hs hf) fun T σ H ⟨ρ, S, env, hS, hE, h⟩ => SPost.bindK hS hE h fun v H1 ρ1 S1 a h1 h2 h3 h4 h5 => h5 ρ1 H1 _ h1 .refl (h2.set h4)⟩
/-- a, b = x, y of plain local names -/
def sPar (is : List Nat) (n : AM) : SM := fun env S => RS.of (n env S) env fun l S1 => if l.length = is.length then .nx ((is.zip l).foldl (fun en p => en.set p.1 (some p.2)) env) S1 else .bad
theorem s_par2 {i j : Nat} {x y : Str} {a b : Expr} {px py pt : Pos} {kt k2 pt2} (hc : X.calm = true) (hN : X.N.Nodup) (hi : X.N[i]? = some x) (hj : X.N[j]? = some y) (hij : i ≠ j)
    (hx : X.env.scope.names.lookup x = some .local) (hy : X.env.scope.names.lookup y = some .local) (ha : DA X W [a, b] n)
    (hw : swappedStores [.Tuple [.Name x px, .Name y py] kt pt] (.Tuple [a, b] k2 pt2) X.env = pure (some [x, y]) := by rfl)
    (hs : swapsWithSole [.Tuple [.Name x px, .Name y py] kt pt] (.Tuple [a, b] k2 pt2) pos.line X.env = pure false := by rfl) :
    DS X W (.Assign [.Tuple [.Name x px, .Name y py] kt pt] (.Tuple [a, b] k2 pt2) pos) (sPar [i, j] n) :=
  ⟨PS.imp (ps_par hc hN hi hj hij hx hy ha.p hw hs) fun T σ H ⟨ρ, S, env, hS, hE, h⟩ => SPost.bindK hS hE h fun v H1 ρ1 S1 l h1 h2 h3 h4 h5 => by
    split at h5
    · rename_i hl
      match l, hl with
      | [d1, d2], _ =>
        obtain ⟨v1, v2, rfl, r1, r2⟩ := h4.dest2
        exact ⟨v1, v2, rfl, h5 ρ1 H1 _ h1 .refl ((h2.set r1).set r2)⟩
    · exact h5.elim⟩
theorem s_par3 {i j l : Nat} {x y z : Str} {a b c : Expr} {px py pz pt : Pos} {kt k2 pt2} (hc : X.calm = true) (hN : X.N.Nodup) (hi : X.N[i]? = some x) (hj : X.N[j]? = some y) (hl : X.N[l]? = some z) (hij : i ≠ j) (hil : i ≠ l) (hjl : j ≠ l)
    (hx : X.env.scope.names.lookup x = some .local) (hy : X.env.scope.names.lookup y = some .local) (hz : X.env.scope.names.lookup z = some .local) (ha : DA X W [a, b, c] n)
    (hw : swappedStores [.Tuple [.Name x px, .Name y py, .Name z pz] kt pt] (.Tuple [a, b, c] k2 pt2) X.env = pure (some [x, y, z]) := by rfl)
    (hs : swapsWithSole [.Tuple [.Name x px, .Name y py, .Name z pz] kt pt] (.Tuple [a, b, c] k2 pt2) pos.line X.env = pure false := by rfl) :
    DS X W (.Assign [.Tuple [.Name x px, .Name y py, .Name z pz] kt pt] (.Tuple [a, b, c] k2 pt2) pos) (sPar [i, j, l] n) :=
  ⟨PS.imp (ps_par3 hc hN hi hj hl hij hil hjl hx hy hz ha.p hw hs) fun T σ H ⟨ρ, S, env, hS, hE, h⟩ => SPost.bindK hS hE h fun v H1 ρ1 S1 l h1 h2 h3 h4 h5 => by
    split at h5
    · rename_i hl
      match l, hl with
      | [d1, d2, d3], _ =>
        obtain ⟨v1, r, rfl, r1, hr⟩ := h4
        obtain ⟨v2, v3, rfl, r2, r3⟩ := Rps.dest2 hr
        exact ⟨v1, v2, v3, rfl, h5 ρ1 H1 _ h1 .refl (((h2.set r1).set r2).set r3)⟩
    · exact h5.elim⟩
/-- name op= e -/
def ipD (K : PySem.W.Frag) (g : G2) : TIp := rD K g
def sAug (i : Nat) (g : G2) (m : TM) : SM := fun env S => match env[i]? with
  | some (some a) => RS.of (m env S) env fun b S1 => match g S1 a b with
    | some c => .nx (env.set i (some c)) S1
    | none => .bad
  | _ => .bad
theorem s_aug {i : Nat} {x : Str} {op : Operator} {g : G2} (hN : X.N.Nodup) (hi : X.N[i]? = some x) (hx : Loc X.env.scope x) (hf : X.fn x = true ∨ X.env.scope.names.lookup x = some .local) (ho : PIp X op (ipD X.K g)) (he : DE X W e me) :
    DS X W (.AugAssign (.Name x pos') op e pos) (sAug i g me) :=
  ⟨PS.imp (ps_aug hN hi hx he.p ho hf) fun T σ H ⟨ρ, S, env, hS, hE, h⟩ => by
    unfold sAug at h
    split at h
    · rename_i a ha
      obtain ⟨v, h1, r1⟩ := hE.val i a ha
      refine ⟨v, h1, SPost.bindK hS hE h fun y H1 ρ1 S1 b hS1 hE1 st1 r2 h5 => ?_⟩
      cases hg : g S1 a b with
      | none => rw [hg] at h5; exact h5.elim
      | some c =>
        rw [hg] at h5
        exact ⟨ρ1, S1, a, b, c, hS1, r1.step hS st1, r2, hg, fun ρ2 H2 w hS2 st2 r3 => h5 ρ2 H2 _ hS2 st2 ((hE1.step hS1 st2).set r3)⟩
    · exact h.elim⟩
end
/-! ### methods of lists -/
abbrev GMt := Sto → D → List D → Option (D × Sto)
def rM (K : PySem.W.Frag) (g : GMt) : V → List V → Hp → VK → Prop := fun x xs H Q => ∃ ρ S d ds z S', SOk K ρ S H ∧ Rp K ρ H d x ∧ Rps K ρ H ds xs ∧ g S d ds = some (z, S') ∧
  ∀ ρ' H' v, SOk K ρ' S' H' → Stp ρ ρ' H H' → Rp K ρ' H' z v → Q v H'
/-- which built-in type a receiver has -/
def isT (S : Sto) (T : String) (d : D) : Bool := match d with
  | .str _ => T == "str"
  | .lst _ => T == "list"
  | .wls _ => T == "list"
  | .loc n => match S[n]? with
    | some (.lst _) => T == "list"
    | some (.dct _) => T == "dict"
    | some (.dcT _) => T == "dict"
    | _ => false
  | _ => false
theorem isT_ok {K : PySem.W.Frag} {ρ : Rho} {S : Sto} {H : Hp} {T : String} {d : D} {v : V} (hS : SOk K ρ S H) (r : Rp K ρ H d v) (e : isT S T d = true) : tyV K T v H := by
  unfold isT at e
  cases d with
  | str x => cases r; exact eq_of_beq e
  | lst l => obtain ⟨p, vs, rfl, h, _⟩ := r; exact .inl ⟨eq_of_beq e, vs, SqL.of h⟩
  | wls l => obtain ⟨p, vs, rfl, h, _⟩ := r; exact .inl ⟨eq_of_beq e, vs, h.sq⟩
  | loc n =>
    obtain ⟨p, rfl, h1⟩ := r
    simp only at e
    cases hn : S[n]? with
    | none => rw [hn] at e; cases e
    | some ob =>
      obtain ⟨a1, e1, ok⟩ := hS.obj n _ hn
      rw [h1] at e1; cases e1
      rw [hn] at e
      cases ob with
      | lst l => obtain ⟨xs, hx, _⟩ := ok; exact .inl ⟨eq_of_beq e, xs, SqL.of hx⟩
      | dct l => obtain ⟨xs, hx, _⟩ := ok; exact .inr (.inr (.inl ⟨eq_of_beq e, .inl ⟨xs, hx⟩⟩))
      | dcT l => obtain ⟨xs, hx, _⟩ := ok; exact .inr (.inr (.inl ⟨eq_of_beq e, .inr ⟨xs, hx⟩⟩))
      | ins C l => cases e
  | _ => cases e
def mM (T : String) (g : GMt) (m : TM) (n : AM) : TM := fun env S => (m env S).bind fun o S1 => if isT S1 T o = true then (n env S1).bind fun ds S2 => match g S2 o ds with
  | some (z, S3) => .ok z S3
  | none => .bad
  else .bad
section
variable {X : Cx} {W : WX} {pos apos : Pos} {e o : Expr} {es : List Expr} {me mo : TM} {n : AM} {g : GMt} {T id : String} {name : Str}
theorem d_bm0 (pa : PlainAttrs T) (slot : Slot T name id) (hty : typeOf (.builtin id) = pure (.type "method_descriptor")) (hm : MtR X id (rM X.K g)) (ho : DE X W o mo)
    (hbase : attributeBase o name X.env (eval o X.env) = eval o X.env := by rfl) (hline : (apos.endLine == pos.line) = true := by rfl) : DE X W (.Call (.Attribute o name apos) [] [] pos) (mM T g mo aNil) :=
  ⟨PE.imp (pe_bm0 pa slot hty hm ho.p hbase hline) fun σ H Q ⟨ρ, S, env, hS, hE, h⟩ => Post.bindK hS hE h fun x H1 ρ1 S1 d hS1 hE1 st1 r1 h1 => by
    split at h1
    · rename_i ht
      refine ⟨isT_ok hS1 r1 ht, ?_⟩
      simp only [aNil, R.bind_ok] at h1
      cases hg : g S1 d [] with
      | none => rw [hg] at h1; exact h1.elim
      | some z => rw [hg] at h1; exact ⟨ρ1, S1, d, [], z.1, z.2, hS1, r1, rfl, hg, h1⟩
    · exact h1.elim⟩
theorem d_bm (pa : PlainAttrs T) (slot : Slot T name id) (hty : typeOf (.builtin id) = pure (.type "method_descriptor")) (hm : MtR X id (rM X.K g)) (ho : DE X W o mo) (ha : DA X W (e :: es) n)
    (hbase : attributeBase o name X.env (eval o X.env) = eval o X.env := by rfl)
    (hfew : ((backTo pos (starEach (e :: es) X.env)).all (fun x => !x.1) && (backToKw pos (keywordEach [] X.env)).all (fun x => x.1.isSome)
      && decide ((e :: es).length + ([] : List Keyword).length + (if ([] : List Keyword).isEmpty then 0 else 1) < 30)) = true := by rfl)
    (hline : (apos.endLine == pos.line) = true := by rfl) (hs : starEach (e :: es) X.env = (false, eval e X.env) :: starEach es X.env := by rfl) (hplain : (backTo pos (starEach es X.env)).any (·.1) = false := by rfl) :
    DE X W (.Call (.Attribute o name apos) (e :: es) [] pos) (mM T g mo n) :=
  ⟨PE.imp (pe_bm pa slot hty hm ho.p ha.p hbase hfew hline hs hplain) fun σ H Q ⟨ρ, S, env, hS, hE, h⟩ => Post.bindK hS hE h fun x H1 ρ1 S1 d hS1 hE1 st1 r1 h1 => by
    split at h1
    · rename_i ht
      refine ⟨isT_ok hS1 r1 ht, Post.bindK hS1 hE1 h1 fun y H2 ρ2 S2 ds hS2 hE2 st2 r2 h2 => ?_⟩
      cases hg : g S2 d ds with
      | none => rw [hg] at h2; exact h2.elim
      | some z => rw [hg] at h2; exact ⟨ρ2, S2, d, ds, z.1, z.2, hS2, r1.step hS1 st2, r2, hg, h2⟩
    · exact h1.elim⟩
end
def appD : GMt := fun S o ds => match o, ds with
  | .loc n, [d] => match S[n]? with
    | some (.lst l) => if l.length < 16777216 then some (.non, S.set n (.lst (l ++ [d]))) else none
    | _ => none
  | _, _ => none
def popD : GMt := fun S o ds => match o with
  | .loc n => match S[n]? with
    | some (.lst l) => match ds with
      | [] => match l[l.length - 1]? with
        | some y => some (y, S.set n (.lst l.dropLast))
        | none => none
      | [.int i] => if 0 ≤ i ∧ i < 2 ^ 63 then match l[i.toNat]? with
        | some y => some (y, S.set n (.lst (l.eraseIdx i.toNat)))
        | none => none
        else none
      | _ => none
    | _ => none
  | _ => none
def insD : GMt := fun S o ds => match o, ds with
  | .loc n, [.int i, d] => match S[n]? with
    | some (.lst l) => if l.length < 16777216 ∧ 0 ≤ i ∧ i < 2 ^ 63 then some (.non, S.set n (.lst (l.take i.toNat ++ [d] ++ l.drop i.toNat))) else none
    | _ => none
  | _, _ => none
def extD : GMt := fun S o ds => match o, ds with
  | .loc n, [.lst m] => match S[n]? with
    | some (.lst l) => if l.length + m.length ≤ 16777216 then some (.non, S.set n (.lst (l ++ m))) else none
    | _ => none
  | _, _ => none
section
variable {X : Cx} {K : PySem.W.Frag} {ρ : Rho} {S : Sto} {H : Hp}
theorem Rps.dropLast {l : List D} {vs : List V} (h : Rps K ρ H l vs) : Rps K ρ H l.dropLast vs.dropLast := by
  rw [List.dropLast_eq_take, List.dropLast_eq_take, h.length]
  exact h.take _
theorem Rps.eraseIdx {l : List D} {vs : List V} (h : Rps K ρ H l vs) (i : Nat) : Rps K ρ H (l.eraseIdx i) (vs.eraseIdx i) := by
  rw [List.eraseIdx_eq_take_drop_succ, List.eraseIdx_eq_take_drop_succ]
  exact (h.take _).append (h.drop _)
theorem mD_app : MtR X "list.append" (rM X.K appD) := by
  intro pins s σ H x xs v us Q I rx rxs ⟨ρ, S, d, ds, z, S', hS, rd, rds, e, q⟩
  unfold appD at e
  split at e
  · rename_i n d
    split at e
    · rename_i l hn
      split at e
      · rename_i hl
        cases e
        obtain ⟨p, rfl, h1⟩ := rd
        obtain ⟨a1, e1, xs', hx, r1⟩ := hS.obj n _ hn
        rw [h1] at e1; cases e1
        obtain ⟨w, rfl, r2⟩ := rds.dest1
        have st : Stp ρ ρ H (upd H p (.lst (xs' ++ [w]))) := upd_step h1
        refine mt_append pins s σ H _ _ v us Q I rx rxs ⟨p, xs', w, rfl, rfl, hx, by rw [sizeLine16, ← r1.length]; exact hl, ?_⟩
        exact q ρ _ .non (hS.write h1 ⟨_, upd_same, Rps.step hS st _ _ (r1.append ⟨w, [], rfl, r2, rfl⟩)⟩) st rfl
      · cases e
    · cases e
  · cases e
theorem mD_pop : MtR X "list.pop" (rM X.K popD) := by
  intro pins s σ H x xs v us Q I rx rxs ⟨ρ, S, d, ds, z, S', hS, rd, rds, e, q⟩
  unfold popD at e
  split at e
  · rename_i n
    split at e
    · rename_i l hn
      obtain ⟨p, rfl, h1⟩ := rd
      obtain ⟨a1, e1, xs', hx, r1⟩ := hS.obj n _ hn
      rw [h1] at e1; cases e1
      split at e
      · split at e
        · rename_i y hy
          cases e; cases rds
          obtain ⟨w, hw, r2⟩ := r1.get hy
          have st : Stp ρ ρ H (upd H p (.lst xs'.dropLast)) := upd_step h1
          refine mt_pop pins s σ H _ _ v us Q I rx rxs ⟨p, xs', w, rfl, rfl, hx, by rw [← r1.length]; exact hw, ?_⟩
          exact q ρ _ w (hS.write h1 ⟨_, upd_same, Rps.step hS st _ _ r1.dropLast⟩) st (r2.step hS st)
        · cases e
      · rename_i i
        split at e
        · rename_i hi
          split at e
          · rename_i y hy
            cases e
            obtain ⟨w0, rfl, r0⟩ := rds.dest1
            cases r0
            obtain ⟨w, hw, r2⟩ := r1.get hy
            have hlt : i.toNat < xs'.length := (List.getElem?_eq_some_iff.mp hw).1
            have st : Stp ρ ρ H (upd H p (.lst (xs'.eraseIdx i.toNat))) := upd_step h1
            have hix : ixN xs'.length i = some i.toNat := by
              unfold ixN
              rw [if_pos hi.1, if_pos (by omega)]
            refine mt_popAt pins s σ H _ _ v us Q I rx rxs ⟨p, xs', i, i.toNat, w, rfl, rfl, hx, by have := hi.1; omega, hi.2, (ixN_seq hix).1, hw, ?_⟩
            exact q ρ _ w (hS.write h1 ⟨_, upd_same, Rps.step hS st _ _ (r1.eraseIdx _)⟩) st (r2.step hS st)
          · cases e
        · cases e
      · cases e
    · cases e
  · cases e
theorem mD_ins : MtR X "list.insert" (rM X.K insD) := by
  intro pins s σ H x xs v us Q I rx rxs ⟨ρ, S, d, ds, z, S', hS, rd, rds, e, q⟩
  unfold insD at e
  split at e
  · rename_i n i d
    split at e
    · rename_i l hn
      split at e
      · rename_i hl
        cases e
        obtain ⟨p, rfl, h1⟩ := rd
        obtain ⟨a1, e1, xs', hx, r1⟩ := hS.obj n _ hn
        rw [h1] at e1; cases e1
        obtain ⟨w0, w, rfl, r0, r2⟩ := rds.dest2
        cases r0
        have st : Stp ρ ρ H (upd H p (.lst (xs'.take i.toNat ++ [w] ++ xs'.drop i.toNat))) := upd_step h1
        refine mt_insert pins s σ H _ _ v us Q I rx rxs ⟨p, xs', i, w, rfl, rfl, hx, by rw [sizeLine16, ← r1.length]; exact hl.1, hl.2.1, hl.2.2, ?_⟩
        exact q ρ _ .non (hS.write h1 ⟨_, upd_same, Rps.step hS st _ _ (((r1.take _).append (es := [d]) (ws := [w]) ⟨w, [], rfl, r2, rfl⟩).append (r1.drop _))⟩) st rfl
      · cases e
    · cases e
  · cases e
theorem mD_ext : MtR X "list.extend" (rM X.K extD) := by
  intro pins s σ H x xs v us Q I rx rxs ⟨ρ, S, d, ds, z, S', hS, rd, rds, e, q⟩
  unfold extD at e
  split at e
  · rename_i n m
    split at e
    · rename_i l hn
      split at e
      · rename_i hl
        cases e
        obtain ⟨p, rfl, h1⟩ := rd
        obtain ⟨a1, e1, xs', hx, r1⟩ := hS.obj n _ hn
        rw [h1] at e1; cases e1
        obtain ⟨w, rfl, p2, ys, rfl, h2, n2, r2⟩ := rds.dest1
        have st : Stp ρ ρ H (upd H p (.lst (xs' ++ ys))) := upd_step h1
        refine mt_extend pins s σ H _ _ v us Q I rx rxs ⟨p, p2, xs', ys, rfl, rfl, hx, h2, by rw [sizeLine16, ← r1.length, ← r2.length]; exact hl, ?_⟩
        exact q ρ _ .non (hS.write h1 ⟨_, upd_same, Rps.step hS st _ _ (r1.append r2)⟩) st rfl
      · cases e
    · cases e
  · cases e
end
end Mi

namespace Mi
open PySem PySem.Spec PyProof.Rows L2 RZ
/-! ### what is walked: the items, and what must hold of the store at each turn -/
abbrev IM := En → Sto → R (List D × (Sto → Prop))
structure ItOk (K : PySem.W.Frag) (J : It) (l : List D) (gd : Sto → Prop) (ρ : Rho) (H : Hp) : Prop where
  goes : ∀ i ρ' S' H', i < l.length → SOk K ρ' S' H' → Stp ρ ρ' H H' → gd S' → J.go i H'
  stops : ∀ ρ' S' H', SOk K ρ' S' H' → Stp ρ ρ' H H' → gd S' → J.stop l.length H'
  yields : ∀ i ρ' S' H' x H2, i < l.length → SOk K ρ' S' H' → Stp ρ ρ' H H' → gd S' → J.yld i H' x H2 → ∃ d, l[i]? = some d ∧ SOk K ρ' S' H2 ∧ Stp ρ' ρ' H' H2 ∧ Rp K ρ' H2 d x
def tI (K : PySem.W.Frag) (W : WX) (m : IM) : TI := fun σ H Q => ∃ ρ S env, SOk K ρ S H ∧ EOk K ρ H env σ ∧ match m env S with
  | .ok (l, gd) S' => ∀ ρ' H' J, SOk K ρ' S' H' → Stp ρ ρ' H H' → ItOk K J l gd ρ' H' → Q J H'
  | .exc C fs S' => ∀ ρ' H' d vs, SOk K ρ' S' H' → Stp ρ ρ' H H' → ρ'.no d → H' d = some (.xd vs) → KVs K ρ' H' fs vs → W (.ref C) (some d) σ H'
  | .bad => False
structure DI (X : Cx) (W : WX) (tg e : Expr) (m : IM) : Prop where
  p : PI X tg e (tI X.K W m)
theorem PI.imp {X : Cx} {tg e : Expr} {t t' : TI} (h : PI X tg e t) (i : ∀ σ H Q, t' σ H Q → t σ H Q) : PI X tg e t' := ⟨fun pins s σ H Q I q => h.run pins s σ H Q I (i σ H Q q)⟩
theorem PI.or {X : Cx} {tg e : Expr} {t t' : TI} (h : PI X tg e t) (k : PI X tg e t') : PI X tg e (fun σ H Q => t σ H Q ∨ t' σ H Q) := ⟨fun pins s σ H Q I q => q.elim (h.run pins s σ H Q I) (k.run pins s σ H Q I)⟩
/-- a list, a tuple -/
def gdSeq (d : D) (l : List D) : Sto → Prop := match d with
  | .loc _ => fun S => seqD S d = some l
  | _ => fun _ => True
def iSeq (m : TM) : IM := fun env S => (m env S).bind fun d S1 => match seqD S1 d with
  | some l => .ok (l, gdSeq d l) S1
  | none => .bad
section
variable {K : PySem.W.Frag} {ρ ρ' : Rho} {S S' : Sto} {H H' : Hp}
/-- behind a step the items are those that the store tells -/
theorem seq_at {d : D} {v : V} {l : List D} {p : Addr} (hS : SOk K ρ S H) (r : Rp K ρ H d (.ref p)) (e : seqD S d = some l) (hS' : SOk K ρ' S' H') (st : Stp ρ ρ' H H') (g : gdSeq d l S') :
    ∃ vs, Rps K ρ' H' l vs ∧ ((SqL K H' p vs ∧ ∀ m, d ≠ .tup m) ∨ (SqT K H' p vs ∧ d = .tup l)) := by
  have r' := r.step hS st
  have e' : seqD S' d = some l := by
    cases d with
    | loc n => exact g
    | _ => exact e
  obtain ⟨q, vs, e2, h1, h2⟩ := der_seq hS' r' e'
  cases e2
  refine ⟨vs, h2, ?_⟩
  rcases h1 with ⟨h1, h3⟩ | ⟨h1, h3⟩
  · refine .inl ⟨h1, fun m z => ?_⟩
    subst z
    cases h3
  · exact .inr ⟨h1.sq, h3⟩
theorem YAt_get {l : List D} {vs : List V} {i : Nat} {x : V} (h : Rps K ρ H l vs) (e : vs[i]? = some x) : ∃ d, l[i]? = some d ∧ Rp K ρ H d x := by
  have hi : i < l.length := by rw [h.length]; exact (List.getElem?_eq_some_iff.mp e).1
  obtain ⟨v, h1, h2⟩ := h.get (d := l[i]) (i := i) (by simp [hi])
  rw [e] at h1; cases h1
  exact ⟨l[i], by simp [hi], h2⟩
theorem it_lst {d : D} {l : List D} {p : Addr} (hS : SOk K ρ S H) (r : Rp K ρ H d (.ref p)) (e : seqD S d = some l) (hd : ∀ m, d ≠ .tup m) : ItOk K (Itl K p) l (gdSeq d l) ρ H := by
  refine ⟨fun i ρ' S' H' hi hS' st g => ?_, fun ρ' S' H' hS' st g => ?_, fun i ρ' S' H' x H2 hi hS' st g y => ?_⟩
  all_goals
    obtain ⟨vs, h2, h1⟩ := seq_at (v := .ref p) hS r e hS' st g
    rcases h1 with ⟨h1, _⟩ | ⟨_, h3⟩
    case inr => exact absurd h3 (hd l)
  · exact ⟨vs, vs[i]'(by rw [← h2.length]; exact hi), h1, by simp [h2.length ▸ hi]⟩
  · exact ⟨vs, h1, by rw [h2.length]; exact Nat.le_refl _⟩
  · obtain ⟨e1, y⟩ := y
    subst e1
    obtain ⟨d', e2, r2⟩ := YAt_get h2 (y vs h1)
    exact ⟨d', e2, hS', .refl, r2⟩
theorem it_tup {l : List D} {p : Addr} (hS : SOk K ρ S H) (r : Rp K ρ H (.tup l) (.ref p)) : ItOk K (Itt K p) l (gdSeq (.tup l) l) ρ H := by
  refine ⟨fun i ρ' S' H' hi hS' st g => ?_, fun ρ' S' H' hS' st g => ?_, fun i ρ' S' H' x H2 hi hS' st g y => ?_⟩
  all_goals
    obtain ⟨vs, h2, h1⟩ := seq_at (v := .ref p) hS r rfl hS' st g
    rcases h1 with ⟨_, h3⟩ | ⟨h1, _⟩
    case inl => exact absurd rfl (h3 l)
  · exact ⟨vs, vs[i]'(by rw [← h2.length]; exact hi), h1, by simp [h2.length ▸ hi]⟩
  · exact ⟨vs, h1, by rw [h2.length]; exact Nat.le_refl _⟩
  · obtain ⟨e1, y⟩ := y
    subst e1
    obtain ⟨d', e2, r2⟩ := YAt_get h2 (y vs h1)
    exact ⟨d', e2, hS', .refl, r2⟩
end
section
variable {X : Cx} {W : WX} {tg e e2 : Expr} {m : TM} {n : AM} {p pos tpos : Pos} {elts : List Expr} {kk : Nat}
theorem tI.bindK {α β : Type} {K : PySem.W.Frag} {rel : Rel α β} {ρ : Rho} {S : Sto} {H : Hp} {env : En} {σ : L2.St} {m : En → Sto → R α} {f : α → Sto → R (List D × (Sto → Prop))} {Q : It → Hp → Prop} {Q1 : β → Hp → Prop} (hS : SOk K ρ S H) (hE : EOk K ρ H env σ)
    (h : match (m env S).bind f with
      | .ok (l, gd) S' => ∀ ρ' H' J, SOk K ρ' S' H' → Stp ρ ρ' H H' → ItOk K J l gd ρ' H' → Q J H'
      | .exc C fs S' => ∀ ρ' H' d vs, SOk K ρ' S' H' → Stp ρ ρ' H H' → ρ'.no d → H' d = some (.xd vs) → KVs K ρ' H' fs vs → W (.ref C) (some d) σ H'
      | .bad => False)
    (k : ∀ v H1 ρ1 S1 a, SOk K ρ1 S1 H1 → EOk K ρ1 H1 env σ → Stp ρ ρ1 H H1 → rel ρ1 H1 a v → (match f a S1 with
      | .ok (l, gd) S' => ∀ ρ' H' J, SOk K ρ' S' H' → Stp ρ1 ρ' H1 H' → ItOk K J l gd ρ' H' → Q J H'
      | .exc C fs S' => ∀ ρ' H' d vs, SOk K ρ' S' H' → Stp ρ1 ρ' H1 H' → ρ'.no d → H' d = some (.xd vs) → KVs K ρ' H' fs vs → W (.ref C) (some d) σ H'
      | .bad => False) → Q1 v H1) :
    tG K W rel m σ H Q1 := by
  refine ⟨ρ, S, env, hS, hE, ?_⟩
  revert h
  generalize m env S = r
  intro h
  cases r with
  | ok a S1 =>
    intro ρ2 H2 v h1 h2 h3
    refine k v H2 ρ2 S1 a h1 (hE.step hS h2) h2 h3 ?_
    simp only [R.bind_ok] at h
    revert h
    generalize f a S1 = r2
    intro h
    cases r2 with
    | ok b S2 => exact fun ρ' H' J q1 q2 q3 => h ρ' H' J q1 (h2.trans q2) q3
    | exc C fs S2 => exact fun ρ' H' d vs q1 q2 q3 q4 q5 => h ρ' H' d vs q1 (h2.trans q2) q3 q4 q5
    | bad => exact h
  | exc C fs S1 => exact h
  | bad => exact h
theorem i_seq (h : DE X W e m) : DI X W tg e (iSeq m) :=
  ⟨PI.imp (PI.or (pi_list h.p) (pi_tup h.p)) fun σ H Q ⟨ρ, S, env, hS, hE, h⟩ => by
    unfold iSeq at h
    cases hm : m env S with
    | ok d S1 =>
      rw [hm] at h
      simp only [R.bind_ok] at h
      cases hl : seqD S1 d with
      | none => rw [hl] at h; exact h.elim
      | some l =>
        rw [hl] at h
        by_cases hd : ∃ m, d = .tup m
        · obtain ⟨m', rfl⟩ := hd
          cases hl
          refine .inr ⟨ρ, S, env, hS, hE, ?_⟩
          rw [hm]
          intro ρ1 H1 v hS1 st1 r1
          obtain ⟨p, vs, rfl, h2, h3⟩ := id r1
          exact ⟨p, rfl, ⟨vs, h2.sq⟩, h ρ1 H1 _ hS1 st1 (it_tup hS1 r1)⟩
        · refine .inl ⟨ρ, S, env, hS, hE, ?_⟩
          rw [hm]
          intro ρ1 H1 v hS1 st1 r1
          obtain ⟨p, vs, rfl, h2, h3⟩ := der_seq hS1 r1 hl
          have hd' : ∀ m, d ≠ .tup m := fun m z => hd ⟨m, z⟩
          rcases h2 with ⟨h2, _⟩ | ⟨_, h4⟩
          · exact ⟨p, rfl, ⟨vs, h2⟩, h ρ1 H1 _ hS1 st1 (it_lst hS1 r1 hl hd')⟩
          · exact absurd h4 (hd' l)
    | exc C fs S1 =>
      rw [hm] at h
      refine .inl ⟨ρ, S, env, hS, hE, ?_⟩
      rw [hm]
      exact h
    | bad => rw [hm] at h; exact h.elim⟩
/-! range -/
def rangeD (lo : Int) (n : Nat) : List D := (List.range n).map fun (i : Nat) => D.int (lo + (i : Int))
def iRng1 (n : AM) : IM := fun env S => (n env S).bind fun ds S1 => match ds with
  | [.int j] => if -1000000000 ≤ j ∧ j ≤ 1000000000 then .ok (rangeD 0 j.toNat, fun _ => True) S1 else .bad
  | _ => .bad
def iRng2 (n : AM) : IM := fun env S => (n env S).bind fun ds S1 => match ds with
  | [.int i, .int j] => if -1000000000 ≤ i ∧ i ≤ 1000000000 ∧ -1000000000 ≤ j ∧ j ≤ 1000000000 then .ok (rangeD i (j - i).toNat, fun _ => True) S1 else .bad
  | _ => .bad
theorem rangeD_length {lo : Int} {n : Nat} : (rangeD lo n).length = n := by unfold rangeD; simp
theorem rangeD_get {lo : Int} {n i : Nat} (h : i < n) : (rangeD lo n)[i]? = some (D.int (lo + (i : Int))) := by unfold rangeD; simp [h]
theorem it_rng {K : PySem.W.Frag} {ρ : Rho} {H : Hp} {lo : Int} {n : Nat} : ItOk K (Itr lo n) (rangeD lo n) (fun _ => True) ρ H := by
  refine ⟨fun i _ _ _ hi _ _ _ => by rw [rangeD_length] at hi; exact hi, fun _ _ _ _ _ _ => by rw [rangeD_length]; exact Nat.le_refl _, fun i ρ' S' H' x H2 hi hS' st _ y => ?_⟩
  obtain ⟨e1, e2⟩ := y
  subst e1 e2
  rw [rangeD_length] at hi
  exact ⟨D.int (lo + (i : Int)), rangeD_get hi, hS', .refl, rfl⟩
theorem i_rng1 (hg : Gl X "range") (hm : X.mg "range" = none) (ha : DA X W [e] n) (hs : starEach [e] X.env = [(false, eval e X.env)] := by rfl) : DI X W tg (.Call (.Name "range" p) [e] [] pos) (iRng1 n) :=
  ⟨PI.imp (pi_range1 hg hm ha.p hs) fun σ H Q ⟨ρ, S, env, hS, hE, h⟩ => tI.bindK hS hE h fun v H1 ρ1 S1 ds hS1 hE1 st1 r1 h1 => by
    split at h1
    · rename_i l gd S' heq
      split at heq
      · split at heq
        · rename_i j hj
          cases heq
          obtain ⟨w, rfl, r2⟩ := r1.dest1
          cases r2
          exact ⟨j, rfl, by omega, by omega, h1 ρ1 H1 _ hS1 .refl it_rng⟩
        · cases heq
      · cases heq
    · rename_i heq
      split at heq
      · split at heq <;> cases heq
      · cases heq
    · exact h1.elim⟩
theorem i_rng2 (hg : Gl X "range") (hm : X.mg "range" = none) (ha : DA X W [e, e2] n) (hs : starEach [e, e2] X.env = [(false, eval e X.env), (false, eval e2 X.env)] := by rfl) (hs2 : starEach [e2] X.env = [(false, eval e2 X.env)] := by rfl) : DI X W tg (.Call (.Name "range" p) [e, e2] [] pos) (iRng2 n) :=
  ⟨PI.imp (pi_range2 hg hm ha.p hs hs2) fun σ H Q ⟨ρ, S, env, hS, hE, h⟩ => tI.bindK hS hE h fun v H1 ρ1 S1 ds hS1 hE1 st1 r1 h1 => by
    split at h1
    · rename_i l gd S' heq
      split at heq
      · split at heq
        · rename_i i j hj
          cases heq
          obtain ⟨w, w2, rfl, r2, r3⟩ := r1.dest2
          cases r2; cases r3
          exact ⟨i, j, rfl, ⟨by omega, by omega, by omega, by omega⟩, h1 ρ1 H1 _ hS1 .refl it_rng⟩
        · cases heq
      · cases heq
    · rename_i heq
      split at heq
      · split at heq <;> cases heq
      · cases heq
    · exact h1.elim⟩
/-! zip of two lists or of two tuples -/
def zipD (l m : List D) : List D := (l.zip m).map fun p => D.tup [p.1, p.2]
def iZipD (n : AM) : IM := fun env S => (n env S).bind fun ds S1 => match ds with
  | [.tup l, .tup m] => .ok (zipD l m, fun _ => True) S1
  | [a, b] => match lstD S1 a, lstD S1 b with
    | some l, some m => .ok (zipD l m, fun S => gdSeq a l S ∧ gdSeq b m S) S1
    | _, _ => .bad
  | _ => .bad
theorem zipD_length {l m : List D} : (zipD l m).length = min l.length m.length := by unfold zipD; simp
theorem zipD_get {l m : List D} {i : Nat} {x y : D} (h1 : l[i]? = some x) (h2 : m[i]? = some y) : (zipD l m)[i]? = some (D.tup [x, y]) := by
  unfold zipD
  rw [List.getElem?_map]
  have : (l.zip m)[i]? = some (x, y) := by
    rw [List.getElem?_zip_eq_some]
    exact ⟨h1, h2⟩
  rw [this]; rfl
theorem seqD_of_lst {S : Sto} {d : D} {l : List D} (h : lstD S d = some l) : seqD S d = some l := by
  unfold lstD at h
  unfold seqD
  split at h
  · rename_i l' hd; rw [hd]; exact h
  · rename_i l' hd; rw [hd]; exact h
  · cases h
section
variable {K : PySem.W.Frag} {ρ : Rho} {S : Sto} {H : Hp}
/-- a new pair -/
theorem new_pair {ρ' : Rho} {S' : Sto} {H' H2 : Hp} {T : Addr} {x y : V} {d e : D} (hS : SOk K ρ' S' H') (r1 : Rp K ρ' H' d x) (r2 : Rp K ρ' H' e y) (hT : H' T = none) (e2 : H2 = upd H' T (.tup [x, y])) :
    SOk K ρ' S' H2 ∧ Stp ρ' ρ' H' H2 ∧ Rp K ρ' H2 (.tup [d, e]) (.ref T) := by
  subst e2
  have rr : Rps K ρ' H' [d, e] [x, y] := ⟨x, [y], rfl, r1, y, [], rfl, r2, rfl⟩
  exact ⟨hS.alloc hT, .alloc hT, T, _, rfl, .inl upd_same, Rps.step hS (.alloc hT) _ _ rr⟩
theorem it_zipL {a b : D} {l m : List D} {p q : Addr} (hS : SOk K ρ S H) (r1 : Rp K ρ H a (.ref p)) (r2 : Rp K ρ H b (.ref q)) (e1 : lstD S a = some l) (e2 : lstD S b = some m) (n1 : ∀ k, a ≠ .tup k) (n2 : ∀ k, b ≠ .tup k) :
    ItOk K (Itz K p q) (zipD l m) (fun S => gdSeq a l S ∧ gdSeq b m S) ρ H := by
  refine ⟨fun i ρ' S' H' hi hS' st g => ?_, fun ρ' S' H' hS' st g => ?_, fun i ρ' S' H' x H2 hi hS' st g y => ?_⟩
  all_goals
    obtain ⟨vs, h2, h1⟩ := seq_at (v := .ref p) hS r1 (seqD_of_lst e1) hS' st g.1
    obtain ⟨ws, h4, h3⟩ := seq_at (v := .ref q) hS r2 (seqD_of_lst e2) hS' st g.2
    rcases h1 with ⟨h1, _⟩ | ⟨_, h5⟩
    case inr => exact absurd h5 (n1 l)
    rcases h3 with ⟨h3, _⟩ | ⟨_, h5⟩
    case inr => exact absurd h5 (n2 m)
  · rw [zipD_length] at hi
    have i1 : i < vs.length := by rw [← h2.length]; omega
    have i2 : i < ws.length := by rw [← h4.length]; omega
    exact ⟨vs, ws, vs[i], ws[i], h1, h3, by simp [i1], by simp [i2]⟩
  · rw [zipD_length]
    exact ⟨vs, ws, h1, h3, by rw [← h2.length, ← h4.length]; omega⟩
  · obtain ⟨T, x1, y1, rfl, hT, e3, y2, y3⟩ := y
    obtain ⟨d1, g1, s1⟩ := YAt_get h2 (y2 vs h1)
    obtain ⟨d2, g2, s2⟩ := YAt_get h4 (y3 ws h3)
    obtain ⟨q1, q2, q3⟩ := new_pair hS' s1 s2 hT e3
    exact ⟨_, zipD_get g1 g2, q1, q2, q3⟩
theorem it_zipT {l m : List D} {p q : Addr} (hS : SOk K ρ S H) (r1 : Rp K ρ H (.tup l) (.ref p)) (r2 : Rp K ρ H (.tup m) (.ref q)) : ItOk K (ItzT K p q) (zipD l m) (fun _ => True) ρ H := by
  refine ⟨fun i ρ' S' H' hi hS' st g => ?_, fun ρ' S' H' hS' st g => ?_, fun i ρ' S' H' x H2 hi hS' st g y => ?_⟩
  all_goals
    obtain ⟨vs, h2, h1⟩ := seq_at (v := .ref p) (l := l) hS r1 rfl hS' st trivial
    obtain ⟨ws, h4, h3⟩ := seq_at (v := .ref q) (l := m) hS r2 rfl hS' st trivial
    rcases h1 with ⟨_, h5⟩ | ⟨h1, _⟩
    case inl => exact absurd rfl (h5 l)
    rcases h3 with ⟨_, h5⟩ | ⟨h3, _⟩
    case inl => exact absurd rfl (h5 m)
  · rw [zipD_length] at hi
    have i1 : i < vs.length := by rw [← h2.length]; omega
    have i2 : i < ws.length := by rw [← h4.length]; omega
    exact ⟨vs, ws, vs[i], ws[i], h1, h3, by simp [i1], by simp [i2]⟩
  · rw [zipD_length]
    exact ⟨vs, ws, h1, h3, by rw [← h2.length, ← h4.length]; omega⟩
  · obtain ⟨T, x1, y1, rfl, hT, e3, y2, y3⟩ := y
    obtain ⟨d1, g1, s1⟩ := YAt_get h2 (y2 vs h1)
    obtain ⟨d2, g2, s2⟩ := YAt_get h4 (y3 ws h3)
    obtain ⟨q1, q2, q3⟩ := new_pair hS' s1 s2 hT e3
    exact ⟨_, zipD_get g1 g2, q1, q2, q3⟩
end
theorem lst_not_tup {S : Sto} {a : D} {l : List D} (h : lstD S a = some l) : ∀ k, a ≠ .tup k := fun k z => by subst z; cases h
theorem i_zip (hg : Gl X "zip") (hm : X.mg "zip" = none) (ha : DA X W [e, e2] n) (hs : starEach [e, e2] X.env = (false, eval e X.env) :: starEach [e2] X.env := by rfl) (hpl : (backTo pos (starEach [e2] X.env)).any (·.1) = false := by rfl) :
    DI X W (.Tuple elts kk tpos) (.Call (.Name "zip" p) [e, e2] [] pos) (iZipD n) :=
  ⟨PI.imp (pi_zipA hg hm ha.p hs hpl) fun σ H Q ⟨ρ, S, env, hS, hE, h⟩ => tI.bindK hS hE h fun v H1 ρ1 S1 ds hS1 hE1 st1 r1 h1 => by
    match ds with
    | [] => exact h1.elim
    | [a] => cases a <;> exact False.elim h1
    | a :: b :: _ :: _ => cases a <;> first | exact False.elim h1 | (cases b <;> exact False.elim h1)
    | [a, b] =>
      obtain ⟨w1, w2, rfl, s1, s2⟩ := r1.dest2
      have lists : ∀ l m, lstD S1 a = some l → lstD S1 b = some m → (∀ ρ' H' J, SOk X.K ρ' S1 H' → Stp ρ1 ρ' H1 H' → ItOk X.K J (zipD l m) (fun S => gdSeq a l S ∧ gdSeq b m S) ρ' H' → Q J H') → iZipA X.K (fun σ H Q => Q [w1, w2] H) σ H1 Q := by
        intro l m ea eb hq
        obtain ⟨p, vs, e1, h2, h3⟩ := der_lst hS1 s1 ea
        obtain ⟨q, ws, e2, h4, h5⟩ := der_lst hS1 s2 eb
        subst e1 e2
        exact ⟨p, q, vs, ws, rfl, .inl ⟨h2, h4, hq ρ1 H1 _ hS1 .refl (it_zipL hS1 s1 s2 ea eb (lst_not_tup ea) (lst_not_tup eb))⟩⟩
      by_cases ht : ∃ l m, a = .tup l ∧ b = .tup m
      · obtain ⟨l, m, rfl, rfl⟩ := ht
        obtain ⟨p, vs, rfl, h2, h3⟩ := id s1
        obtain ⟨q, ws, rfl, h4, h5⟩ := id s2
        exact ⟨p, q, vs, ws, rfl, .inr ⟨h2.sq, h4.sq, h1 ρ1 H1 _ hS1 .refl (it_zipT hS1 s1 s2)⟩⟩
      · have h1' : match (match lstD S1 a, lstD S1 b with
          | some l, some m => (R.ok (zipD l m, fun S => gdSeq a l S ∧ gdSeq b m S) S1 : R (List D × (Sto → Prop)))
          | _, _ => .bad) with
          | .ok (l, gd) S' => ∀ ρ' H' J, SOk X.K ρ' S' H' → Stp ρ1 ρ' H1 H' → ItOk X.K J l gd ρ' H' → Q J H'
          | .exc C fs S' => ∀ ρ' H' d vs, SOk X.K ρ' S' H' → Stp ρ1 ρ' H1 H' → ρ'.no d → H' d = some (.xd vs) → KVs X.K ρ' H' fs vs → W (.ref C) (some d) σ H'
          | .bad => False := by
          cases a <;> first
            | (cases b <;> first
                | exact absurd ⟨_, _, rfl, rfl⟩ ht
                | exact h1)
            | exact h1
        cases ea : lstD S1 a with
        | none => rw [ea] at h1'; exact h1'.elim
        | some l =>
          cases eb : lstD S1 b with
          | none => rw [ea, eb] at h1'; exact h1'.elim
          | some m =>
            rw [ea, eb] at h1'
            exact lists l m ea eb h1'⟩
/-! enumerate(list) -/
def enumD (l : List D) : List D := zipD (rangeD 0 l.length) l
def iEnD (n : AM) : IM := fun env S => (n env S).bind fun ds S1 => match ds with
  | [a] => match lstD S1 a with
    | some l => .ok (enumD l, gdSeq a l) S1
    | _ => .bad
  | _ => .bad
section
variable {K : PySem.W.Frag} {ρ : Rho} {S : Sto} {H : Hp}
theorem enumD_length {l : List D} : (enumD l).length = l.length := by unfold enumD; rw [zipD_length, rangeD_length]; omega
theorem it_enumL {a : D} {l : List D} {p : Addr} (hS : SOk K ρ S H) (r1 : Rp K ρ H a (.ref p)) (e1 : lstD S a = some l) : ItOk K (Ite K p) (enumD l) (gdSeq a l) ρ H := by
  have n1 := lst_not_tup e1
  refine ⟨fun i ρ' S' H' hi hS' st g => ?_, fun ρ' S' H' hS' st g => ?_, fun i ρ' S' H' x H2 hi hS' st g y => ?_⟩
  all_goals
    obtain ⟨vs, h2, h1⟩ := seq_at (v := .ref p) hS r1 (seqD_of_lst e1) hS' st g
    rcases h1 with ⟨h1, _⟩ | ⟨_, h5⟩
    case inr => exact absurd h5 (n1 l)
  · rw [enumD_length] at hi
    have i1 : i < vs.length := by rw [← h2.length]; omega
    exact ⟨vs, vs[i], h1, by simp [i1]⟩
  · rw [enumD_length]
    exact ⟨vs, h1, by rw [← h2.length]; omega⟩
  · obtain ⟨T, x1, rfl, hT, e3, y2⟩ := y
    obtain ⟨d1, g1, s1⟩ := YAt_get h2 (y2 vs h1)
    rw [enumD_length] at hi
    have gi := rangeD_get (lo := 0) hi
    have z0 : (0 : Int) + (i : Int) = (i : Int) := Int.zero_add _
    rw [z0] at gi
    obtain ⟨q1, q2, q3⟩ := new_pair (d := .int (i : Int)) hS' rfl s1 hT e3
    exact ⟨_, zipD_get gi g1, q1, q2, q3⟩
end
theorem i_enum (hg : Gl X "enumerate") (hm : X.mg "enumerate" = none) (ha : DA X W [e] n) (hs : starEach [e] X.env = [(false, eval e X.env)] := by rfl) : DI X W (.Tuple elts kk tpos) (.Call (.Name "enumerate" p) [e] [] pos) (iEnD n) :=
  ⟨PI.imp (pi_enum hg hm ha.p hs) fun σ H Q ⟨ρ, S, env, hS, hE, h⟩ => tI.bindK hS hE h fun v H1 ρ1 S1 ds hS1 hE1 st1 r1 h1 => by
    match ds with
    | [] => exact False.elim h1
    | a :: b :: _ => exact False.elim h1
    | [a] =>
      obtain ⟨w1, rfl, s1⟩ := r1.dest1
      simp only at h1
      cases ea : lstD S1 a with
      | none => rw [ea] at h1; exact False.elim h1
      | some l =>
        rw [ea] at h1
        obtain ⟨p, vs, e1, h2, h3⟩ := der_lst hS1 s1 ea
        subst e1
        exact ⟨p, vs, rfl, h2, h1 ρ1 H1 _ hS1 .refl (it_enumL hS1 s1 ea)⟩⟩
/-! ### for -/
open Classical in
noncomputable def forD (g : GM) (body : SM) (gd : Sto → Prop) : List D → En → Sto → RS
  | [], env, S => if gd S then .nx env S else .bad
  | d :: ds, env, S => if gd S then match g d env S with
    | .ok env1 S1 => match body env1 S1 with
      | .nx env2 S2 => forD g body gd ds env2 S2
      | .ct env2 S2 => forD g body gd ds env2 S2
      | .bk env2 S2 => .nx env2 S2
      | r => r
    | _ => .bad
    else .bad
noncomputable def sFor (i : IM) (g : GM) (body : SM) : SM := fun env S => RS.of (i env S) env fun p S1 => forD g body p.2 p.1 env S1
theorem s_for {body : List Stmt} {i : IM} {is : List Nat} {g : GM} {mb : SM} (hp : PassesOwn (model X.prog X.w) X.A X.env X.xe) (hc : X.calm = true) (hi : DI X W tg e i) (hg : DG X is tg g) (hb : DB X W body mb)
    (hs : ∀ x, foldedSetIterable e X.env x = pure x := by intro _; rfl) : DS X W (.For tg e body [] pos) (sFor i g mb) :=
  ⟨PS.imp (ps_for hp hc hi.p hg.p hb.p hs) fun T σ H ⟨ρ, S, env, hS, hE, h⟩ => by
    refine ⟨ρ, S, env, hS, hE, ?_⟩
    unfold sFor at h
    cases hi' : i env S with
    | exc C fs S1 =>
      rw [hi'] at h
      exact fun ρ' H' d vs q1 q2 q3 q4 q5 => h ρ' H' σ d vs q1 q2 (hE.step hS q2) q3 q4 q5
    | bad => rw [hi'] at h; exact h.elim
    | ok p S1 =>
      obtain ⟨l, gd⟩ := p
      rw [hi'] at h
      simp only [RS.of_ok] at h
      intro ρ1 H1 J hS1 st1 it
      -- the turn's word: what is left of the loop gives the end that is wanted
      refine ⟨fun k m σ' H' => m = l.length - k ∧ k ≤ l.length ∧ ∃ ρ' S' env', SOk X.K ρ' S' H' ∧ EOk X.K ρ' H' env' σ' ∧ Stp ρ1 ρ' H1 H' ∧ SPost X.K W T ρ' H' (forD g mb gd (l.drop k) env' S'), ⟨l.length, by simp, Nat.zero_le _, ρ1, S1, env, hS1, hE.step hS st1, .refl, by simpa using h.step st1⟩, ?_⟩
      rintro k m σ' H' ⟨rfl, hk, ρ', S', env', hS', hE', st', h'⟩
      by_cases hlt : k < l.length
      · right
        rw [List.drop_eq_getElem_cons hlt] at h'
        unfold forD at h'
        split at h'
        · rename_i hgd
          refine ⟨it.goes k ρ' S' H' hlt hS' st' hgd, fun σ2 H2 => ∃ ρ2 S2 env2, SOk X.K ρ2 S2 H2 ∧ EOk X.K ρ2 H2 env2 σ2 ∧ Stp ρ1 ρ2 H1 H2 ∧ SPost X.K W T ρ2 H2 (forD g mb gd (l.drop (k + 1)) env2 S2),
            fun σ2 H2 q => ⟨l.length - (k + 1), by omega, rfl, hlt, q⟩, fun x H2 y => ?_⟩
          obtain ⟨d, hd, hS2, st2, r2⟩ := it.yields k ρ' S' H' x H2 hlt hS' st' hgd y
          have hd' : d = l[k] := by simp [hlt] at hd; exact hd.symm
          subst hd'
          cases hg' : g l[k] env' S' with
          | ok env3 S3 =>
            rw [hg'] at h'
            refine ⟨ρ', S', env', l[k], hS2, hE'.step hS' st2, r2, env3, S3, hg', fun ρ4 H4 σ4 hS4 st4 hE4 _ => ?_⟩
            refine ⟨ρ4, S3, env3, hS4, hE4, ?_⟩
            have stA : Stp ρ' ρ4 H' H4 := st2.trans st4
            simp only at h'
            cases hb' : mb env3 S3 with
            | nx env5 S5 => rw [hb'] at h'; exact fun ρ6 H6 σ6 h1 h2 h3 => ⟨ρ6, S5, env5, h1, h3, st'.trans (stA.trans h2), h'.step (stA.trans h2)⟩
            | ct env5 S5 => rw [hb'] at h'; exact fun ρ6 H6 σ6 h1 h2 h3 => ⟨ρ6, S5, env5, h1, h3, st'.trans (stA.trans h2), h'.step (stA.trans h2)⟩
            | bk env5 S5 => rw [hb'] at h'; exact fun ρ6 H6 σ6 h1 h2 h3 => h' ρ6 H6 σ6 h1 (stA.trans h2) h3
            | rt d5 S5 => rw [hb'] at h'; exact fun ρ6 H6 v h1 h2 h3 => h' ρ6 H6 v h1 (stA.trans h2) h3
            | exc C fs env5 S5 => rw [hb'] at h'; exact fun ρ6 H6 σ6 d vs h1 h2 h3 h4 h5 h6 => h' ρ6 H6 σ6 d vs h1 (stA.trans h2) h3 h4 h5 h6
            | bad => rw [hb'] at h'; exact h'.elim
          | exc C fs S3 => rw [hg'] at h'; exact h'.elim
          | bad => rw [hg'] at h'; exact h'.elim
        · exact h'.elim
      · left
        have ek : k = l.length := by omega
        subst ek
        rw [List.drop_length] at h'
        unfold forD at h'
        split at h'
        · rename_i hgd
          exact ⟨it.stops ρ' S' H' hS' st' hgd, h' ρ' H' σ' hS' .refl hE'⟩
        · exact h'.elim⟩
/-! ### while -/
/-- n turns at most -/
def whileN (c : BM) (body : SM) : Nat → En → Sto → RS
  | 0, _, _ => .bad
  | n + 1, env, S => RS.of (c env S) env fun b S1 => if b = true then match body env S1 with
    | .nx env2 S2 => whileN c body n env2 S2
    | .ct env2 S2 => whileN c body n env2 S2
    | .bk env2 S2 => .nx env2 S2
    | r => r
    else .nx env S1
open Classical in
noncomputable def sWhile (c : BM) (body : SM) : SM := fun env S => if h : ∃ n, whileN c body n env S ≠ .bad then whileN c body (choose h) env S else .bad
theorem whileN_more {c : BM} {body : SM} : ∀ {n : Nat} {env : En} {S : Sto}, whileN c body n env S ≠ .bad → whileN c body (n + 1) env S = whileN c body n env S
  | 0, env, S, h => absurd rfl h
  | n + 1, env, S, h => by
    unfold whileN at h
    rw [whileN, whileN]
    cases hc : c env S with
    | ok b S1 =>
      rw [hc] at h
      simp only [RS.of_ok] at h ⊢
      cases b with
      | false => rfl
      | true =>
        simp only [if_true] at h ⊢
        cases hb : body env S1 with
        | nx env2 S2 => rw [hb] at h; exact whileN_more h
        | ct env2 S2 => rw [hb] at h; exact whileN_more h
        | bk env2 S2 => rfl
        | rt d S2 => rfl
        | exc C fs env2 S2 => rfl
        | bad => rfl
    | exc C fs S1 => rfl
    | bad => rfl
theorem whileN_le {c : BM} {body : SM} {n m : Nat} {env : En} {S : Sto} (h : whileN c body n env S ≠ .bad) (hm : n ≤ m) : whileN c body m env S = whileN c body n env S := by
  induction m with
  | zero => have : n = 0 := by omega
            subst this; rfl
  | succ m ih =>
    by_cases e : n = m + 1
    · subst e; rfl
    · have e1 := ih (by omega)
      rw [whileN_more (by rw [e1]; exact h), e1]
theorem sWhile_eq {c : BM} {body : SM} {n : Nat} {env : En} {S : Sto} (h : whileN c body n env S ≠ .bad) : sWhile c body env S = whileN c body n env S := by
  classical
  have hx : ∃ n, whileN c body n env S ≠ .bad := ⟨n, h⟩
  unfold sWhile
  rw [dif_pos hx]
  have h2 := Classical.choose_spec hx
  rcases Nat.le_total n (Classical.choose hx) with q | q
  · exact whileN_le h q
  · exact (whileN_le h2 q).symm
/-- one turn -/
theorem sWhile_unfold {c : BM} {body : SM} (env : En) (S : Sto) : sWhile c body env S = RS.of (c env S) env fun b S1 => if b = true then match body env S1 with
    | .nx env2 S2 => sWhile c body env2 S2
    | .ct env2 S2 => sWhile c body env2 S2
    | .bk env2 S2 => .nx env2 S2
    | r => r
    else .nx env S1 := by
  classical
  by_cases hx : ∃ n, whileN c body n env S ≠ .bad
  · obtain ⟨n, hn⟩ := hx
    rw [sWhile_eq hn]
    cases n with
    | zero => exact absurd rfl hn
    | succ n =>
      unfold whileN at hn ⊢
      cases hc : c env S with
      | ok b S1 =>
        rw [hc] at hn
        simp only [RS.of_ok] at hn ⊢
        cases b with
        | false => rfl
        | true =>
          simp only [if_true] at hn ⊢
          cases hb : body env S1 with
          | nx env2 S2 => rw [hb] at hn; exact (sWhile_eq hn).symm
          | ct env2 S2 => rw [hb] at hn; exact (sWhile_eq hn).symm
          | bk env2 S2 => rfl
          | rt d S2 => rfl
          | exc C fs env2 S2 => rfl
          | bad => rfl
      | exc C fs S1 => rfl
      | bad => rfl
  · have h0 : sWhile c body env S = .bad := by unfold sWhile; rw [dif_neg hx]
    rw [h0]
    have all : ∀ n, whileN c body n env S = .bad := fun n => Classical.byContradiction fun z => hx ⟨n, z⟩
    have inner : ∀ env2 S2, (∀ n, whileN c body n env2 S2 = .bad) → sWhile c body env2 S2 = .bad := fun env2 S2 h => by
      unfold sWhile
      rw [dif_neg fun ⟨n, z⟩ => z (h n)]
    have a1 := all 1
    rw [whileN] at a1
    cases hc : c env S with
    | ok b S1 =>
      rw [hc] at a1
      simp only [RS.of_ok] at a1 ⊢
      cases b with
      | false => exact absurd a1 (by intro z; cases z)
      | true =>
        simp only [if_true] at a1 ⊢
        cases hb : body env S1 with
        | nx env2 S2 =>
          refine (inner env2 S2 fun n => ?_).symm
          have := all (n + 1)
          rw [whileN, hc] at this
          simpa [hb] using this
        | ct env2 S2 =>
          refine (inner env2 S2 fun n => ?_).symm
          have := all (n + 1)
          rw [whileN, hc] at this
          simpa [hb] using this
        | bk env2 S2 => rw [hb] at a1; cases a1
        | rt d S2 => rw [hb] at a1; cases a1
        | exc C fs env2 S2 => rw [hb] at a1; cases a1
        | bad => rfl
    | exc C fs S1 => rw [hc] at a1; cases a1
    | bad => rfl
theorem s_while {c : Expr} {body : List Stmt} {mc : BM} {mb : SM} (hp : PassesOwn (model X.prog X.w) X.A X.env X.xe) (hc : DT X W c mc) (hb : DB X W body mb) : DS X W (.While c body [] pos) (sWhile mc mb) :=
  ⟨PS.imp (ps_while hp hc.p hb.p) fun T σ H ⟨ρ, S, env, hS, hE, h⟩ => by
    classical
    have hx : ∃ n, whileN mc mb n env S ≠ .bad := Classical.byContradiction fun hx => by
      unfold sWhile at h
      rw [dif_neg hx] at h
      exact h
    obtain ⟨n, hn⟩ := hx
    rw [sWhile_eq hn] at h
    refine ⟨fun m σ' H' => ∃ ρ' S' env', SOk X.K ρ' S' H' ∧ EOk X.K ρ' H' env' σ' ∧ SPost X.K W T ρ' H' (whileN mc mb m env' S'), ⟨n, ρ, S, env, hS, hE, h⟩, ?_⟩
    rintro m σ' H' ⟨ρ', S', env', hS', hE', h'⟩
    cases m with
    | zero => exact h'.elim
    | succ m =>
      unfold whileN at h'
      refine SPost.bindK hS' hE' h' fun v H1 ρ1 S1 b hS1 hE1 st1 r1 h1 => ?_
      cases r1
      cases v with
      | false => exact h1 ρ1 H1 σ' hS1 .refl hE1
      | true =>
        simp only [if_true] at h1 ⊢
        refine ⟨fun σ2 H2 => ∃ ρ2 S2 env2, SOk X.K ρ2 S2 H2 ∧ EOk X.K ρ2 H2 env2 σ2 ∧ SPost X.K W T ρ2 H2 (whileN mc mb m env2 S2), fun σ2 H2 q => ⟨m, Nat.lt_succ_self m, q⟩, ρ1, S1, env', hS1, hE1, ?_⟩
        cases hb' : mb env' S1 with
        | nx env5 S5 => rw [hb'] at h1; exact fun ρ6 H6 σ6 q1 q2 q3 => ⟨ρ6, S5, env5, q1, q3, h1.step q2⟩
        | ct env5 S5 => rw [hb'] at h1; exact fun ρ6 H6 σ6 q1 q2 q3 => ⟨ρ6, S5, env5, q1, q3, h1.step q2⟩
        | bk env5 S5 => rw [hb'] at h1; exact h1
        | rt d5 S5 => rw [hb'] at h1; exact h1
        | exc C fs env5 S5 => rw [hb'] at h1; exact h1
        | bad => rw [hb'] at h1; exact h1.elim⟩
end
end Mi

namespace Mi
open PySem PySem.Spec PyProof.Rows L2
/-! ### a list that is just being built: nobody else knows it -/
def Rho.hide (ρ : Rho) (p : Addr) : Rho := ⟨ρ.m, fun a => ρ.pv a ∨ a = p⟩
section
variable {K : PySem.W.Frag} {ρ ρ' : Rho} {S S' : Sto} {H H' : Hp} {p : Addr} {env : En} {σ : L2.St}
theorem Rho.no_hide {q : Addr} (h : (ρ.hide p).no q) : ρ.no q ∧ q ≠ p := ⟨⟨h.1, fun z => h.2 (.inl z)⟩, fun z => h.2 (.inr z)⟩
mutual
/-- another record of what may change -/
theorem Rp.re (hm : ∀ n a, ρ.m n = some a → ρ'.m n = some a) (hn : ∀ (q : Addr) (u : HO), H q = some u → ρ.no q → ρ'.no q) : ∀ (d : D) (v : V), Rp K ρ H d v → Rp K ρ' H d v
  | .non, v, h => h
  | .bl b, v, h => h
  | .int i, v, h => h
  | .str x, v, h => h
  | .tup l, v, h => by
    obtain ⟨p, vs, e, h1, h2⟩ := h
    exact ⟨p, vs, e, h1, Rps.re hm hn l vs h2⟩
  | .lst l, v, h => by
    obtain ⟨p, vs, e, h1, h2, h3⟩ := h
    exact ⟨p, vs, e, h1, hn p _ h1 h2, Rps.re hm hn l vs h3⟩
  | .wls l, v, h => by
    obtain ⟨p, vs, e, h1, h2⟩ := h
    exact ⟨p, vs, e, h1, Rps.re hm hn l vs h2⟩
  | .loc n, v, h => by
    obtain ⟨a, e, h1⟩ := h
    exact ⟨a, e, hm n a h1⟩
  | .gl a, v, h => h
  | .ty n, v, h => h
  | .dic ks l, v, h => by
    obtain ⟨p, vs, e, h1, hl, h2, h3⟩ := h
    exact ⟨p, vs, e, h1, hl, hn p _ h1 h2, Rps.re hm hn l vs h3⟩
theorem Rps.re (hm : ∀ n a, ρ.m n = some a → ρ'.m n = some a) (hn : ∀ (q : Addr) (u : HO), H q = some u → ρ.no q → ρ'.no q) : ∀ (ds : List D) (vs : List V), Rps K ρ H ds vs → Rps K ρ' H ds vs
  | [], vs, h => h
  | d :: ds, vs, h => by
    obtain ⟨v, r, e, h1, h2⟩ := h
    exact ⟨v, r, e, Rp.re hm hn d v h1, Rps.re hm hn ds r h2⟩
end
theorem KVs.re {κ : Type} (hm : ∀ n a, ρ.m n = some a → ρ'.m n = some a) (hn : ∀ (q : Addr) (u : HO), H q = some u → ρ.no q → ρ'.no q) : ∀ (l : List (κ × D)) (vs : List (κ × V)), KVs K ρ H l vs → KVs K ρ' H l vs
  | [], _, h => h
  | d :: ds, _, h => by obtain ⟨v, r, e, h1, h2⟩ := h; exact ⟨v, r, e, Rp.re hm hn _ _ h1, KVs.re hm hn ds r h2⟩
theorem OOk.re (hm : ∀ n a, ρ.m n = some a → ρ'.m n = some a) (hn : ∀ (q : Addr) (u : HO), H q = some u → ρ.no q → ρ'.no q) {a : Addr} {o : O} (h : OOk K ρ H a o) : OOk K ρ' H a o := by
  cases o with
  | lst l => obtain ⟨vs, h1, h2⟩ := h; exact ⟨vs, h1, Rps.re hm hn l vs h2⟩
  | dct l => obtain ⟨vs, h1, h2⟩ := h; exact ⟨vs, h1, KVs.re hm hn l vs h2⟩
  | dcT l => obtain ⟨vs, h1, h2⟩ := h; exact ⟨vs, h1, KVs.re hm hn l vs h2⟩
  | ins C l => obtain ⟨dx, vs, h1, h2⟩ := h; exact ⟨dx, vs, h1, KVs.re hm hn l vs h2⟩
theorem EOk.re (hm : ∀ n a, ρ.m n = some a → ρ'.m n = some a) (hn : ∀ (q : Addr) (u : HO), H q = some u → ρ.no q → ρ'.no q) (h : EOk K ρ H env σ) : EOk K ρ' H env σ :=
  ⟨h.len, fun i d e => by obtain ⟨v, h1, h2⟩ := h.val i d e; exact ⟨v, h1, Rp.re hm hn d v h2⟩⟩
theorem unh (q : Addr) (u : HO) (_ : H q = some u) (h : (ρ.hide p).no q) : ρ.no q := (Rho.no_hide h).1
theorem SOk.unhide (h : SOk K (ρ.hide p) S H) : SOk K ρ S H :=
  ⟨h.inj, h.dom, fun n o e => by
    obtain ⟨a, ha, ok⟩ := h.obj n o e
    exact ⟨a, ha, OOk.re (ρ := ρ.hide p) (ρ' := ρ) (fun _ _ z => z) unh ok⟩, fun a z => h.prv a (.inl z)⟩
mutual
/-- the list at p, that nobody knows, is written -/
theorem Rp.pupd {o : HO} (hp : ∀ u, H p = some u → Mk u) (pv : ρ.pv p) : ∀ (d : D) (v : V), Rp K ρ H d v → Rp K ρ (upd H p o) d v
  | .non, v, h => h
  | .bl b, v, h => h
  | .int i, v, h => h
  | .str x, v, h => h
  | .tup l, v, h => by
    obtain ⟨q, vs, e, h1, h2⟩ := h
    refine ⟨q, vs, e, ?_, Rps.pupd hp pv l vs h2⟩
    rcases h1 with h1 | h1
    · exact .inl (by rw [upd_ne (fun z => by subst z; exact hp _ h1)]; exact h1)
    · exact .inr h1
  | .lst l, v, h => by
    obtain ⟨q, vs, e, h1, h2, h3⟩ := h
    exact ⟨q, vs, e, by rw [upd_ne (fun z => h2.2 (by rw [z]; exact pv))]; exact h1, h2, Rps.pupd hp pv l vs h3⟩
  | .wls l, v, h => by
    obtain ⟨q, vs, e, h1, h2⟩ := h
    refine ⟨q, vs, e, ?_, Rps.pupd hp pv l vs h2⟩
    rcases h1 with ⟨o', h1⟩ | h1
    · exact .inl ⟨o', by rw [upd_ne (fun z => by subst z; exact hp _ h1)]; exact h1⟩
    · exact .inr h1
  | .loc n, v, h => h
  | .gl a, v, h => h
  | .ty n, v, h => h
  | .dic ks l, v, h => by
    obtain ⟨q, vs, e, h1, hl, h2, h3⟩ := h
    exact ⟨q, vs, e, by rw [upd_ne (fun z => h2.2 (by rw [z]; exact pv))]; exact h1, hl, h2, Rps.pupd hp pv l vs h3⟩
theorem Rps.pupd {o : HO} (hp : ∀ u, H p = some u → Mk u) (pv : ρ.pv p) : ∀ (ds : List D) (vs : List V), Rps K ρ H ds vs → Rps K ρ (upd H p o) ds vs
  | [], vs, h => h
  | d :: ds, vs, h => by
    obtain ⟨v, r, e, h1, h2⟩ := h
    exact ⟨v, r, e, Rp.pupd hp pv d v h1, Rps.pupd hp pv ds r h2⟩
end
theorem KVs.pupd {κ : Type} {o : HO} (hp : ∀ u, H p = some u → Mk u) (pv : ρ.pv p) : ∀ (l : List (κ × D)) (vs : List (κ × V)), KVs K ρ H l vs → KVs K ρ (upd H p o) l vs
  | [], _, h => h
  | d :: ds, _, h => by obtain ⟨v, r, e, h1, h2⟩ := h; exact ⟨v, r, e, Rp.pupd hp pv _ _ h1, KVs.pupd hp pv ds r h2⟩
theorem EOk.pupd {o : HO} (hp : ∀ u, H p = some u → Mk u) (pv : ρ.pv p) (h : EOk K ρ H env σ) : EOk K ρ (upd H p o) env σ :=
  ⟨h.len, fun i d e => by obtain ⟨v, h1, h2⟩ := h.val i d e; exact ⟨v, h1, Rp.pupd hp pv d v h2⟩⟩
theorem SOk.pupd {ys : List V} (hS : SOk K ρ S H) (pv : ρ.pv p) : SOk K ρ S (upd H p (.lst ys)) := by
  obtain ⟨⟨u, h1, h2⟩, h3⟩ := hS.prv p pv
  have hp : ∀ u, H p = some u → Mk u := fun u' h => by rw [h1] at h; cases h; exact h2
  refine ⟨hS.inj, hS.dom, fun n o e => ?_, fun a z => ?_⟩
  · obtain ⟨a, ha, ok⟩ := hS.obj n o e
    have hne : a ≠ p := fun z => h3 n (by rw [← z]; exact ha)
    refine ⟨a, ha, ?_⟩
    cases o with
    | lst l => obtain ⟨vs, h1, h2⟩ := ok; exact ⟨vs, by rw [upd_ne hne]; exact h1, Rps.pupd hp pv l vs h2⟩
    | dct l => obtain ⟨vs, h1, h2⟩ := ok; exact ⟨vs, by rw [upd_ne hne]; exact h1, KVs.pupd hp pv l vs h2⟩
    | dcT l => obtain ⟨vs, h1, h2⟩ := ok; exact ⟨vs, by rw [upd_ne hne]; exact h1, KVs.pupd hp pv l vs h2⟩
    | ins C l => obtain ⟨dx, vs, h1, h2⟩ := ok; exact ⟨dx, vs, by rw [upd_ne hne]; exact h1, KVs.pupd hp pv l vs h2⟩
  · by_cases hap : a = p
    · subst hap; exact ⟨⟨_, upd_same, trivial⟩, h3⟩
    · obtain ⟨⟨u', h4, h5⟩, h6⟩ := hS.prv a z
      exact ⟨⟨u', by rw [upd_ne hap]; exact h4, h5⟩, h6⟩
/-- a new list, hidden -/
theorem hide_no (hp : H p = none) (q : Addr) (u : HO) (h : H q = some u) (hn : ρ.no q) : (ρ.hide p).no q :=
  ⟨hn.1, fun z => z.elim hn.2 fun z => by subst z; rw [hp] at h; cases h⟩
theorem hide_mk (hp : H p = none) (u : HO) (h : H p = some u) : Mk u := by rw [hp] at h; cases h
theorem SOk.hideN (hS : SOk K ρ S H) (hp : H p = none) : SOk K (ρ.hide p) S (upd H p (.lst [])) := by
  have a := hS.alloc (o := .lst []) hp
  have b : ∀ n, ρ.m n ≠ some p := (hS.noN hp).1
  refine ⟨hS.inj, hS.dom, fun n o e => ?_, fun a z => ?_⟩
  · obtain ⟨a, ha, ok⟩ := hS.obj n o e
    have hne : a ≠ p := fun z => b n (by rw [← z]; exact ha)
    have ok1 : OOk K (ρ.hide p) H a o := OOk.re (ρ := ρ) (ρ' := ρ.hide p) (fun _ _ z => z) (hide_no hp) ok
    have pv : (ρ.hide p).pv p := .inr rfl
    refine ⟨a, ha, ?_⟩
    cases o with
    | lst l => obtain ⟨vs, h1, h2⟩ := ok1; exact ⟨vs, by rw [upd_ne hne]; exact h1, Rps.pupd (hide_mk hp) pv l vs h2⟩
    | dct l => obtain ⟨vs, h1, h2⟩ := ok1; exact ⟨vs, by rw [upd_ne hne]; exact h1, KVs.pupd (hide_mk hp) pv l vs h2⟩
    | dcT l => obtain ⟨vs, h1, h2⟩ := ok1; exact ⟨vs, by rw [upd_ne hne]; exact h1, KVs.pupd (hide_mk hp) pv l vs h2⟩
    | ins C l => obtain ⟨dx, vs, h1, h2⟩ := ok1; exact ⟨dx, vs, by rw [upd_ne hne]; exact h1, KVs.pupd (hide_mk hp) pv l vs h2⟩
  · rcases z with z | z
    · obtain ⟨⟨u', h4, h5⟩, h6⟩ := hS.prv a z
      exact ⟨⟨u', by rw [upd_ne (ne_of_none h4 hp)]; exact h4, h5⟩, h6⟩
    · subst z; exact ⟨⟨_, upd_same, trivial⟩, b⟩
theorem EOk.hideN (hE : EOk K ρ H env σ) (hp : H p = none) : EOk K (ρ.hide p) (upd H p (.lst [])) env σ :=
  (EOk.re (ρ := ρ) (ρ' := ρ.hide p) (fun _ _ z => z) (hide_no hp) hE).pupd (hide_mk hp) (.inr rfl)
/-- steps with the list hidden -/
theorem Stp.unhide {ρ4 : Rho} (st : Stp (ρ.hide p) ρ4 H H') (hv : ¬ ρ.pv p) : ∃ ρ5 : Rho, ρ4 = ρ5.hide p ∧ ¬ ρ5.pv p ∧ Stp ρ ρ5 H H' := by
  refine ⟨⟨ρ4.m, fun a => ρ4.pv a ∧ a ≠ p⟩, ?_, fun z => z.2 rfl, ⟨st.up, st.new, fun a z => ?_, fun a z => ⟨st.pvu a (.inl z), fun e => by subst e; exact hv z⟩, st.keep, st.live⟩⟩
  · have hp := st.pvu p (.inr rfl)
    obtain ⟨m4, pv4⟩ := ρ4
    unfold Rho.hide
    congr 1
    funext a
    apply propext
    refine ⟨fun z => ?_, fun z => z.elim (·.1) fun e => by subst e; exact hp⟩
    by_cases e : a = p
    · exact .inr e
    · exact .inl ⟨z, e⟩
  · rcases st.pv a z.1 with (q | q) | q
    · exact .inl q
    · exact absurd q z.2
    · exact .inr q
/-- .. and with it from ahead of it -/
theorem Stp.hide {ρ0 : Rho} {H0 : Hp} (st : Stp ρ0 ρ H0 H) (hp : H0 p = none) : Stp ρ0 (ρ.hide p) H0 H :=
  ⟨st.up, st.new, fun a z => z.elim (st.pv a) fun e => by subst e; exact .inr hp, fun a z => .inl (st.pvu a z), st.keep, st.live⟩
theorem Stp.putP {ρ0 : Rho} {H0 : Hp} {ys : List V} (st : Stp ρ0 ρ H0 H) (hp : H0 p = none) : Stp ρ0 ρ H0 (upd H p (.lst ys)) where
  up := st.up
  new := st.new
  pv := st.pv
  pvu := st.pvu
  keep a o h hn := by rw [upd_ne (ne_of_none h hp)]; exact st.keep a o h hn
  live a h := st.live a (upd_live h)
/-- the list built is told to the world, as one that stays -/
theorem hidden_lst {l : List D} {vs : List V} (hS : SOk K (ρ.hide p) S H) (e : H p = some (.lst vs)) (r : Rps K (ρ.hide p) H l vs) (hv : ¬ ρ.pv p) : SOk K ρ S H ∧ Rp K ρ H (.lst l) (.ref p) :=
  ⟨hS.unhide, p, vs, rfl, e, ⟨(hS.prv p (.inr rfl)).2, hv⟩, Rps.re (ρ := ρ.hide p) (ρ' := ρ) (fun _ _ z => z) unh l vs r⟩
/-- .. as one that may change -/
theorem hidden_loc {l : List D} {vs : List V} (hS : SOk K (ρ.hide p) S H) (e : H p = some (.lst vs)) (r : Rps K (ρ.hide p) H l vs) (hv : ¬ ρ.pv p) : SOk K (ρ.put S.length p) (S ++ [.lst l]) H ∧ Rp K (ρ.put S.length p) H (.loc S.length) (.ref p) := by
  have hm : ∀ n a, (ρ.hide p).m n = some a → (ρ.put S.length p).m n = some a := fun n a h => by
    unfold Rho.put
    simp only
    rw [if_neg (Nat.ne_of_lt (hS.dom n a h))]
    exact h
  have hn : ∀ (q : Addr) (u : HO), H q = some u → (ρ.hide p).no q → (ρ.put S.length p).no q := fun q vs _ h => by
    obtain ⟨h1, h2⟩ := Rho.no_hide h
    refine ⟨fun n z => ?_, h1.2⟩
    unfold Rho.put at z
    simp only at z
    split at z
    · cases z; exact h2 rfl
    · exact h1.1 n z
  have at_ : (ρ.put S.length p).m S.length = some p := by unfold Rho.put; simp
  have np := (hS.prv p (.inr rfl)).2
  refine ⟨⟨fun n m a h1 h2 => ?_, fun n a h => ?_, fun n o' e' => ?_, fun a h => ?_⟩, p, rfl, at_⟩
  · unfold Rho.put at h1 h2
    simp only at h1 h2
    split at h1 <;> split at h2
    · omega
    · cases h1; exact absurd h2 (np m)
    · cases h2; exact absurd h1 (np n)
    · exact hS.inj n m a h1 h2
  · unfold Rho.put at h
    simp only at h
    rw [List.length_append]
    split at h
    · simp; omega
    · have := hS.dom n a h; simp; omega
  · by_cases hlt : n < S.length
    · rw [List.getElem?_append_left hlt] at e'
      obtain ⟨a, ha, ok'⟩ := hS.obj n o' e'
      exact ⟨a, hm n a ha, ok'.re hm hn⟩
    · have hn' : n = S.length := by
        have := (List.getElem?_eq_some_iff.mp e').1
        simp at this; omega
      subst hn'
      simp at e'
      subst e'
      exact ⟨p, at_, vs, e, Rps.re hm hn l vs r⟩
  · obtain ⟨h1, h2⟩ := hS.prv a (.inl h)
    refine ⟨h1, fun n z => ?_⟩
    unfold Rho.put at z
    simp only at z
    split at z
    · cases z; exact hv h
    · exact h2 n z
end
/-! ### comprehensions -/
def wipeE (env : En) : List Nat → En
  | [] => env
  | v :: vs => (wipeE env vs).set v none
theorem EOk.wipe {K : PySem.W.Frag} {ρ : Rho} {H : Hp} {env : En} {σ : L2.St} (h : EOk K ρ H env σ) : ∀ vs : List Nat, EOk K ρ H (wipeE env vs) (L2.wipe σ vs)
  | [] => h
  | v :: vs => (EOk.wipe h vs).drop1
theorem wipe_get (σ : L2.St) (i : Nat) : ∀ vs : List Nat, i ∈ vs → i < σ.length → (L2.wipe σ vs)[i]? = some none
  | v :: vs, hm, hl => by
    unfold L2.wipe
    by_cases e : v = i
    · subst e
      rw [List.getElem?_set_self (by rw [wipe_length]; exact hl)]
    · rw [List.getElem?_set_ne e]
      exact wipe_get σ i vs (by rcases List.mem_cons.mp hm with z | z; exact absurd z.symm e; exact z) hl
theorem wipe_chg {σ σ' : L2.St} {is vs : List Nat} (c : Chg is (L2.wipe σ vs) σ') (hs : ∀ i ∈ is, i ∈ vs) : L2.wipe σ' vs = L2.wipe σ vs := by
  have hl : σ'.length = σ.length := by rw [c.1, wipe_length]
  apply List.ext_getElem?
  intro i
  by_cases hi : i < σ.length
  · by_cases hm : i ∈ vs
    · rw [wipe_get σ i vs hm hi, wipe_get σ' i vs hm (by omega)]
    · rw [wipe_out hm, c.2 i fun z => hm (hs i z)]
  · rw [List.getElem?_eq_none (by rw [wipe_length]; omega), List.getElem?_eq_none (by rw [wipe_length]; omega)]
open Classical in
noncomputable def lcD (g : GM) (tt : BM) (te : TM) (gd : Sto → Prop) (env : En) : List D → Sto → List D → R (List D)
  | [], S, acc => if gd S then .ok acc S else .bad
  | d :: ds, S, acc => if gd S then match g d env S with
    | .ok env1 S1 => match tt env1 S1 with
      | .ok b S2 => if b = true then match te env1 S2 with
          | .ok y S3 => if acc.length < 16777216 then lcD g tt te gd env ds S3 (acc ++ [y]) else .bad
          | _ => .bad
        else lcD g tt te gd env ds S2 acc
      | _ => .bad
    | _ => .bad
    else .bad
noncomputable def mLc (i : IM) (g : GM) (tt : BM) (te : TM) (vs : List Nat) : TM := fun env S => (i env S).bind fun p S1 => (lcD g tt te p.2 (wipeE env vs) p.1 S1 []).bind fun l S2 => .ok (.lst l) S2
noncomputable def mLcN (i : IM) (g : GM) (tt : BM) (te : TM) (vs : List Nat) : TM := fun env S => (i env S).bind fun p S1 => (lcD g tt te p.2 (wipeE env vs) p.1 S1 []).bind fun l S2 => R.new (.lst l) S2
def bYes : BM := fun _ S => .ok true S
structure DTs (X : Cx) (es : List Expr) (m : BM) : Prop where
  p : PTs X es (tT X.K W0 m)
theorem PTs.imp {X : Cx} {e : List Expr} {t t' : TT} (h : PTs X e t) (i : ∀ σ H Q, t' σ H Q → t σ H Q) : PTs X e t' := ⟨fun pins s σ H Q I q => h.run pins s σ H Q I (i σ H Q q)⟩
theorem ts_nil {X : Cx} : DTs X [] bYes := ⟨PTs.imp pts_nil fun σ H Q ⟨ρ, S, env, hS, hE, h⟩ => h ρ H true hS .refl rfl⟩
theorem ts_one {X : Cx} {c : Expr} {m : BM} (h : DT X W0 c m) : DTs X [c] m := ⟨pts_one h.p⟩
section
variable {K : PySem.W.Frag} {W : WX}
theorem of_lc {i : IM} {g : GM} {tt : BM} {te : TM} {vs is : List Nat} {σ : L2.St} {H : Hp} {Q : VK} {fin : List D → Sto → R D} (his : ∀ i ∈ is, i ∈ vs)
    (hfin : ∀ {ρ : Rho} {S : Sto} {H : Hp} {p : Addr} {l : List D} {us : List V} {ρ0 : Rho} {H0 : Hp}, SOk K (ρ.hide p) S H → H p = some (.lst us) → Rps K (ρ.hide p) H l us → ¬ ρ.pv p → H0 p = none → Stp ρ0 ρ H0 H → Post K W (Rp K) ρ0 H0 σ (fin l S) Q → Q (.ref p) H)
    (h : tE K W (fun env S => (i env S).bind fun p S1 => (lcD g tt te p.2 (wipeE env vs) p.1 S1 []).bind fin) σ H Q) : tLc (tI K W i) (gD K is g) (tT K W0 tt) (tE K W0 te) vs σ H Q := by
  obtain ⟨ρ, S, env, hS, hE, h⟩ := h
  refine ⟨ρ, S, env, hS, hE, ?_⟩
  cases hi' : i env S with
  | exc C fs S1 =>
    simp only [hi', R.bind_exc] at h
    exact h
  | bad => simp only [hi', R.bind_bad] at h; exact h.elim
  | ok p S1 =>
    obtain ⟨l, gd⟩ := p
    simp only [hi', R.bind_ok] at h
    intro ρ1 H1 J hS1 st1 it D hD
    have hv1 : ¬ ρ1.pv D := (hS1.noN hD).2
    refine ⟨fun k m H' => m = l.length - k ∧ k ≤ l.length ∧ ∃ ρ' S' acc us, SOk K (ρ'.hide D) S' H' ∧ ¬ ρ'.pv D ∧ Stp ρ1 ρ' H1 H' ∧ H' D = some (.lst us) ∧ Rps K (ρ'.hide D) H' acc us ∧ EOk K (ρ'.hide D) H' (wipeE env vs) (L2.wipe σ vs) ∧
        Post K W (Rp K) ρ1 H1 σ ((lcD g tt te gd (wipeE env vs) (l.drop k) S' acc).bind fin) Q,
      ⟨l.length, by simp, Nat.zero_le _, ρ1, S1, [], [], hS1.hideN hD, hv1, .alloc hD, upd_same, rfl, ((hE.step hS st1).hideN hD).wipe vs, by simpa using h.step st1⟩, ?_⟩
    rintro k m H' ⟨rfl, hk, ρ', S', acc, us, hS', hv', st', eD, racc, hE', h'⟩
    by_cases hlt : k < l.length
    · right
      rw [List.drop_eq_getElem_cons hlt] at h'
      unfold lcD at h'
      split at h'
      case isFalse => exact h'.elim
      rename_i hgd
      refine ⟨it.goes k ρ' S' H' hlt hS'.unhide st' hgd, fun H2 => ∃ ρ2 S2 acc2 us2, SOk K (ρ2.hide D) S2 H2 ∧ ¬ ρ2.pv D ∧ Stp ρ1 ρ2 H1 H2 ∧ H2 D = some (.lst us2) ∧ Rps K (ρ2.hide D) H2 acc2 us2 ∧ EOk K (ρ2.hide D) H2 (wipeE env vs) (L2.wipe σ vs) ∧
        Post K W (Rp K) ρ1 H1 σ ((lcD g tt te gd (wipeE env vs) (l.drop (k + 1)) S2 acc2).bind fin) Q, fun H2 q => ⟨l.length - (k + 1), by omega, rfl, hlt, q⟩, fun x H2 y => ?_⟩
      have gdH := it.yields k (ρ'.hide D) S' H' x H2 hlt hS' (st'.hide hD) hgd y
      obtain ⟨d, hd, hS2, st2, r2⟩ := gdH
      have hd' : d = l[k] := by simp [hlt] at hd; exact hd.symm
      subst hd'
      cases hg' : g l[k] (wipeE env vs) S' with
      | exc C fs S3 => rw [hg'] at h'; exact h'.elim
      | bad => rw [hg'] at h'; exact h'.elim
      | ok env3 S3 =>
        rw [hg'] at h'
        refine ⟨ρ'.hide D, S', wipeE env vs, l[k], hS2, hE'.step hS' st2, r2, env3, S3, hg', fun ρ4 H4 σ4 hS4 st4 hE4 chg => ⟨wipe_chg chg his, ?_⟩⟩
        refine ⟨ρ4, S3, env3, hS4, hE4, ?_⟩
        simp only at h'
        cases ht' : tt env3 S3 with
        | exc C fs S4 => rw [ht'] at h'; exact h'.elim
        | bad => rw [ht'] at h'; exact h'.elim
        | ok b S5 =>
          rw [ht'] at h'
          intro ρ6 H6 b' hS6 st6 eb
          cases eb
          simp only at h'
          have stB : Stp (ρ'.hide D) ρ6 H' H6 := (st2.trans st4).trans st6
          have hE6 : EOk K ρ6 H6 (wipeE env vs) (L2.wipe σ vs) := hE'.step hS' stB
          have racc6 := Rps.step hS' stB acc us racc
          have eD6 : H6 D = some (.lst us) := stB.keep D _ eD (hS'.prv D (.inr rfl)).2
          cases b with
          | false =>
            simp only [Bool.false_eq_true, if_false] at h' ⊢
            obtain ⟨ρ7, rfl, hv7, st7⟩ := stB.unhide hv'
            exact ⟨ρ7, S5, acc, us, hS6, hv7, st'.trans st7, eD6, racc6, hE6, h'⟩
          | true =>
            simp only [if_true] at h' ⊢
            refine ⟨ρ6, S5, env3, hS6, hE4.step hS4 st6, ?_⟩
            cases he' : te env3 S5 with
            | exc C fs S8 => rw [he'] at h'; exact h'.elim
            | bad => rw [he'] at h'; exact h'.elim
            | ok z S8 =>
              rw [he'] at h'
              simp only at h'
              split at h'
              case isFalse => exact h'.elim
              rename_i hlen
              intro ρ9 H9 yv hS9 st9 ry
              have stC : Stp (ρ'.hide D) ρ9 H' H9 := stB.trans st9
              have eD9 : H9 D = some (.lst us) := stC.keep D _ eD (hS'.prv D (.inr rfl)).2
              have racc9 := Rps.step hS' stC acc us racc
              obtain ⟨ρ7, rfl, hv7, st7⟩ := stC.unhide hv'
              have mkD : ∀ u, H9 D = some u → Mk u := fun u hu => by rw [eD9] at hu; cases hu; trivial
              have pvD : (ρ7.hide D).pv D := .inr rfl
              refine ⟨us, eD9, by rw [sizeLine16, ← racc9.length]; exact hlen, ρ7, S8, acc ++ [z], us ++ [yv], hS9.pupd pvD, hv7, (st'.trans st7).putP hD, upd_same, ?_, (hE'.step hS' stC).pupd mkD pvD, h'⟩
              exact Rps.pupd mkD pvD _ _ (racc9.append (es := [z]) (ws := [yv]) ⟨yv, [], rfl, ry, rfl⟩)
    · left
      have ek : k = l.length := by omega
      subst ek
      rw [List.drop_length] at h'
      unfold lcD at h'
      split at h'
      case isFalse => exact h'.elim
      rename_i hgd
      exact ⟨it.stops ρ' S' H' hS'.unhide st' hgd, hfin hS' eD racc hv' hD st' h'⟩
end
section
variable {X : Cx} {W : WX} {elt tg iter : Expr} {ifs : List Expr} {scope : Scope} {own : List (Str × Nat)} {pos spos py : Pos} {i : IM} {g : GM} {tt : BM} {te : TM} {is : List Nat}
theorem d_lc (hc : X.calm = true) (hN : X.N.Nodup) (hi : DI X W tg iter i) (ok : BlkOk X.N X.env.scope scope own) (his : ∀ i ∈ is, i ∈ own.map (·.2))
    (hg : ∀ (s : Shared) (H : Hp) (C : Addr) (cl : List (Str × Addr)) (fp : List Addr), DG (X.blk s H scope (compEnvC scope cl C X.env) fp) is tg g) (ht : ∀ (s : Shared) (H : Hp) (C : Addr) (cl : List (Str × Addr)) (fp : List Addr), DTs (X.blk s H scope (compEnvC scope cl C X.env) fp) ifs tt)
    (he : ∀ (s : Shared) (H : Hp) (C : Addr) (cl : List (Str × Addr)) (fp : List Addr), DE (X.blk s H scope (compEnvC scope cl C X.env) fp) W0 elt te) (hs : ∀ x, foldedSetIterable iter X.env x = pure x := by intro _; rfl) :
    DE X W (.ListComp elt [⟨tg, iter, ifs, 0⟩] scope pos) (mLc i g tt te (own.map (·.2))) :=
  ⟨PE.imp (pe_lc hc hN hi.p ok (fun s H C cl fp => (hg s H C cl fp).p) (fun s H C cl fp => (ht s H C cl fp).p) (fun s H C cl fp => (he s H C cl fp).p) hs) fun σ H Q h =>
    of_lc his (fun hS e r hv _ st hf => by obtain ⟨h1, h2⟩ := hidden_lst hS e r hv; exact hf _ _ _ h1 st h2) h⟩
theorem hid_st {ρ ρ0 : Rho} {H H0 : Hp} {p : Addr} {n : Nat} (st : Stp ρ0 ρ H0 H) (hp : H0 p = none) (hd : ∀ m a, ρ0.m m = some a → m ≠ n) : Stp ρ0 (ρ.put n p) H0 H :=
  ⟨fun m a h => by unfold Rho.put; simp only; rw [if_neg (hd m a h)]; exact st.up m a h, fun m a h => by
    unfold Rho.put at h
    simp only at h
    split at h
    · cases h; exact .inr hp
    · exact st.new m a h, st.pv, st.pvu, st.keep, st.live⟩
theorem d_lcN (hc : X.calm = true) (hN : X.N.Nodup) (hi : DI X W tg iter i) (ok : BlkOk X.N X.env.scope scope own) (his : ∀ i ∈ is, i ∈ own.map (·.2))
    (hg : ∀ (s : Shared) (H : Hp) (C : Addr) (cl : List (Str × Addr)) (fp : List Addr), DG (X.blk s H scope (compEnvC scope cl C X.env) fp) is tg g) (ht : ∀ (s : Shared) (H : Hp) (C : Addr) (cl : List (Str × Addr)) (fp : List Addr), DTs (X.blk s H scope (compEnvC scope cl C X.env) fp) ifs tt)
    (he : ∀ (s : Shared) (H : Hp) (C : Addr) (cl : List (Str × Addr)) (fp : List Addr), DE (X.blk s H scope (compEnvC scope cl C X.env) fp) W0 elt te) (hs : ∀ x, foldedSetIterable iter X.env x = pure x := by intro _; rfl) :
    DE X W (.ListComp elt [⟨tg, iter, ifs, 0⟩] scope pos) (mLcN i g tt te (own.map (·.2))) :=
  ⟨PE.imp (pe_lc hc hN hi.p ok (fun s H C cl fp => (hg s H C cl fp).p) (fun s H C cl fp => (ht s H C cl fp).p) (fun s H C cl fp => (he s H C cl fp).p) hs) fun σ H Q h =>
    of_lc his (fun {ρ S H p l us ρ0 H0} hS e r hv hp st hf => by
      obtain ⟨h1, h2⟩ := hidden_loc hS e r hv
      exact hf _ _ _ h1 (hid_st st hp fun m a h => Nat.ne_of_lt (hS.dom m a (st.up m a h))) h2) h⟩
/-- name = [..] on one line, the name a local -/
theorem s_setLc {j : Nat} {y : Str} (hc : X.calm = true) (hN : X.N.Nodup) (hy : X.N[j]? = some y) (hyl : X.env.scope.names.lookup y = some .local)
    (hsw : swapsWith (.ListComp elt [⟨tg, iter, ifs, 0⟩] scope pos) (some (.Name y py)) spos.line X.env = pure true) (hi : DI X W tg iter i) (ok : BlkOk X.N X.env.scope scope own) (his : ∀ i ∈ is, i ∈ own.map (·.2))
    (hg : ∀ (s : Shared) (H : Hp) (C : Addr) (cl : List (Str × Addr)) (fp : List Addr), DG (X.blk s H scope (compEnvC scope cl C X.env) fp) is tg g) (ht : ∀ (s : Shared) (H : Hp) (C : Addr) (cl : List (Str × Addr)) (fp : List Addr), DTs (X.blk s H scope (compEnvC scope cl C X.env) fp) ifs tt)
    (he : ∀ (s : Shared) (H : Hp) (C : Addr) (cl : List (Str × Addr)) (fp : List Addr), DE (X.blk s H scope (compEnvC scope cl C X.env) fp) W0 elt te) (hs : ∀ x, foldedSetIterable iter X.env x = pure x := by intro _; rfl) :
    DS X W (.Assign [.Name y py] (.ListComp elt [⟨tg, iter, ifs, 0⟩] scope pos) spos) (sAsg (mLc i g tt te (own.map (·.2))) (gN j)) :=
  ⟨PS.imp (ps_setLc hc hN hy hyl hsw hi.p ok (fun s H C cl fp => (hg s H C cl fp).p) (fun s H C cl fp => (ht s H C cl fp).p) (fun s H C cl fp => (he s H C cl fp).p) hs) fun T σ H ⟨ρ, S, env, hS, hE, h⟩ =>
    of_lc (W := W) his (fun hS e r hv _ st hf => by obtain ⟨h1, h2⟩ := hidden_lst hS e r hv; exact hf _ _ _ h1 st h2)
      (SPost.bindK (rel := Rp X.K) hS hE h fun v H1 ρ1 S1 a h1 h2 h3 h4 h5 => h5 ρ1 H1 _ h1 .refl (h2.set h4))⟩
theorem s_setLcN {j : Nat} {y : Str} (hc : X.calm = true) (hN : X.N.Nodup) (hy : X.N[j]? = some y) (hyl : X.env.scope.names.lookup y = some .local)
    (hsw : swapsWith (.ListComp elt [⟨tg, iter, ifs, 0⟩] scope pos) (some (.Name y py)) spos.line X.env = pure true) (hi : DI X W tg iter i) (ok : BlkOk X.N X.env.scope scope own) (his : ∀ i ∈ is, i ∈ own.map (·.2))
    (hg : ∀ (s : Shared) (H : Hp) (C : Addr) (cl : List (Str × Addr)) (fp : List Addr), DG (X.blk s H scope (compEnvC scope cl C X.env) fp) is tg g) (ht : ∀ (s : Shared) (H : Hp) (C : Addr) (cl : List (Str × Addr)) (fp : List Addr), DTs (X.blk s H scope (compEnvC scope cl C X.env) fp) ifs tt)
    (he : ∀ (s : Shared) (H : Hp) (C : Addr) (cl : List (Str × Addr)) (fp : List Addr), DE (X.blk s H scope (compEnvC scope cl C X.env) fp) W0 elt te) (hs : ∀ x, foldedSetIterable iter X.env x = pure x := by intro _; rfl) :
    DS X W (.Assign [.Name y py] (.ListComp elt [⟨tg, iter, ifs, 0⟩] scope pos) spos) (sAsg (mLcN i g tt te (own.map (·.2))) (gN j)) :=
  ⟨PS.imp (ps_setLc hc hN hy hyl hsw hi.p ok (fun s H C cl fp => (hg s H C cl fp).p) (fun s H C cl fp => (ht s H C cl fp).p) (fun s H C cl fp => (he s H C cl fp).p) hs) fun T σ H ⟨ρ, S, env, hS, hE, h⟩ =>
    of_lc (W := W) his (fun {ρ S H p l us ρ0 H0} hS e r hv hp st hf => by
      obtain ⟨h1, h2⟩ := hidden_loc hS e r hv
      exact hf _ _ _ h1 (hid_st st hp fun m a h => Nat.ne_of_lt (hS.dom m a (st.up m a h))) h2)
      (SPost.bindK (rel := Rp X.K) hS hE h fun v H1 ρ1 S1 a h1 h2 h3 h4 h5 => h5 ρ1 H1 _ h1 .refl (h2.set h4))⟩
end
end Mi

namespace Mi
open PySem PySem.Spec PyProof.Rows L2
/-! ### defs -/
abbrev FM := List D → Sto → R D
def spD (K : PySem.W.Frag) (np : Nat) (m : FM) : Sp := fun vs H Q E => ∃ ρ S ds, ds.length = np ∧ SOk K ρ S H ∧ Rps K ρ H ds vs ∧ Post K (fun c d _ H => E c d H) (Rp K) ρ H [] (m ds S) Q
structure Got (K : PySem.W.Frag) (mg : Str → Option Value) (x : Str) (st : Stmt) (f : Addr) (fd : FuncData) : Prop where
  fn : FunD K x x (defArgs st) (defBody st) (defScope st) [] [] f fd
  gl : mg x = some (.ref f)
structure FD (P : Program) (w : World) (K : PySem.W.Frag) (mg : Str → Option Value) (base : Heap) (x : Str) (st : Stmt) (ps : List Str) (k : Nat) (m : FM) : Prop where
  ex : ∃ f fd, Got K mg x st f fd ∧ FnOk P w K mg base (L2.CX P w) k f fd ps (spD K ps.length m)
def startE (n : Nat) (ds : List D) : En := ds.map some ++ List.replicate (n - ds.length) none
def fnP (n : Nat) (b : SM) : FM := fun ds S => match b (startE n ds) S with
  | .nx _ S' => .ok .non S'
  | .rt d S' => .ok d S'
  | .exc C fs _ S' => .exc C fs S'
  | _ => .bad
theorem start_ok {K : PySem.W.Frag} {ρ : Rho} {H : Hp} {N : List Str} {ds : List D} {vs : List V} (h : Rps K ρ H ds vs) : EOk K ρ H (startE N.length ds) (L2.start N vs) := by
  unfold startE L2.start
  have hl := h.length
  refine ⟨by simp [hl], fun i d e => ?_⟩
  by_cases hi : i < ds.length
  · rw [List.getElem?_append_left (by simpa using hi), List.getElem?_map] at e
    cases q : ds[i]? with
    | none => rw [q] at e; cases e
    | some d' =>
      rw [q] at e; cases e
      obtain ⟨v, h1, h2⟩ := h.get q
      exact ⟨v, by rw [List.getElem?_append_left (by simpa [← hl] using hi), List.getElem?_map, h1]; rfl, h2⟩
  · rw [List.getElem?_append_right (by simpa using hi), List.getElem?_replicate] at e
    split at e <;> cases e
section
variable {P : Program} {w : World} {K : PySem.W.Frag} {mg : Str → Option Value} {base : Heap} {x : Str} {st : Stmt} {N ps : List Str} {k : Nat}
/-- THE RULE for a def -/
theorem fd_mk {b : SM} {f : Addr} {fd : FuncData} (G : Got K mg x st f fd) (S : FnScope N ps (defScope st))
    (hb : ∀ (X : Cx) (W : WX) (cdv : Value) (A : Around) (outer : List Env) (s : Shared) (H : Hp) (E : XK), X = cxOf (L2.CX P w) P w K mg base N x (defScope st) f cdv A outer s H E → W = (fun cls d _ H => E cls d H) → Takes X W → PassesOwn (model X.prog X.w) X.A X.env X.xe → Room k X.A → DB X W (defBody st) b) :
    FD P w K mg base x st ps (k + 1) (fnP N.length b) := by
  refine ⟨f, fd, G, G.fn.ok S (fun vs H Q E h => ?_) fun cdv A outer s H vs Q E hr h => ?_⟩
  · obtain ⟨ρ, S, ds, hl, _, h2, _⟩ := h
    rw [← h2.length, hl]
  · refine ⟨_, (hb _ _ cdv A outer s H E rfl rfl (takes_of rfl rfl rfl rfl) (passes_of rfl) hr).p, ?_⟩
    obtain ⟨ρ, S, ds, hl, hS, h2, h3⟩ := h
    refine ⟨ρ, S, startE N.length ds, hS, start_ok h2, ?_⟩
    unfold fnP at h3
    revert h3
    generalize b (startE N.length ds) S = r
    intro h3
    cases r with
    | nx env S' => exact fun ρ' H' σ' q1 q2 q3 => h3 ρ' H' .non q1 q2 rfl
    | rt d S' => exact fun ρ' H' v q1 q2 q3 => h3 ρ' H' v q1 q2 q3
    | exc C fs env S' => exact fun ρ' H' σ' d vs q1 q2 q3 q4 q5 q6 => h3 ρ' H' d vs q1 q2 q4 q5 q6
    | bk env S' => exact h3.elim
    | ct env S' => exact h3.elim
    | bad => exact h3.elim
theorem FD.mono {j : Nat} {m : FM} (F : FD P w K mg base x st ps j m) (h : j ≤ k) : FD P w K mg base x st ps k m := by
  obtain ⟨f, fd, G, F⟩ := F.ex
  exact ⟨f, fd, G, F.mono h⟩
/-- another reading of the same def -/
theorem FD.imp {m m' : FM} (F : FD P w K mg base x st ps k m) (h : ∀ ρ S H ds E Q, ds.length = ps.length → SOk K ρ S H → Post K E (Rp K) ρ H [] (m' ds S) Q → Post K E (Rp K) ρ H [] (m ds S) Q) : FD P w K mg base x st ps k m' := by
  obtain ⟨f, fd, G, F⟩ := F.ex
  exact ⟨f, fd, G, F.imp fun vs H Q E ⟨ρ, S, ds, h1, h2, h3, h4⟩ => ⟨ρ, S, ds, h1, h2, h3, h ρ S H ds _ Q h1 h2 h4⟩⟩
end
/-! ### what a call leaves of the store: nothing of its own -/
mutual
def D.lo (n : Nat) : D → Prop
  | .tup l => D.los n l
  | .lst l => D.los n l
  | .wls l => D.los n l
  | .dic _ l => D.los n l
  | .loc m => m < n
  | _ => True
def D.los (n : Nat) : List D → Prop
  | [] => True
  | d :: ds => D.lo n d ∧ D.los n ds
end
def kvBelow {κ : Type} (n : Nat) : List (κ × D) → Prop
  | [] => True
  | d :: ds => D.lo n d.2 ∧ kvBelow n ds
def O.lo (n : Nat) : O → Prop
  | .lst l => D.los n l
  | .dct l => kvBelow n l
  | .dcT l => kvBelow n l
  | .ins _ l => kvBelow n l
def gcOk (S S' : Sto) : Prop := S.length ≤ S'.length ∧ ∀ i, i < S.length → S'[i]? = S[i]? ∨ ∃ o, S'[i]? = some o ∧ o.lo S.length
open Classical in
noncomputable def gcR (S : Sto) : R D → R D
  | .ok d S' => if gcOk S S' ∧ d.lo S.length then .ok d (S'.take S.length) else .bad
  | .exc C fs S' => if gcOk S S' ∧ kvBelow S.length fs then .exc C fs (S'.take S.length) else .bad
  | .bad => .bad
def Rho.cut (ρ : Rho) (n : Nat) : Rho := ⟨fun m => if m < n then ρ.m m else none, ρ.pv⟩
section
variable {K : PySem.W.Frag} {ρ ρ' : Rho} {S S' : Sto} {H H' : Hp} {n : Nat}
theorem Rho.no_cut {q : Addr} (h : ρ.no q) : (ρ.cut n).no q := by
  refine ⟨fun m z => ?_, h.2⟩
  unfold Rho.cut at z
  simp only at z
  split at z
  · exact h.1 m z
  · cases z
mutual
theorem Rp.cut : ∀ (d : D) (v : V), Rp K ρ H d v → d.lo n → Rp K (ρ.cut n) H d v
  | .non, v, h, _ => h
  | .bl b, v, h, _ => h
  | .int i, v, h, _ => h
  | .str x, v, h, _ => h
  | .tup l, v, h, b => by
    obtain ⟨p, vs, e, h1, h2⟩ := h
    exact ⟨p, vs, e, h1, Rps.cutN l vs h2 b⟩
  | .lst l, v, h, b => by
    obtain ⟨p, vs, e, h1, h2, h3⟩ := h
    exact ⟨p, vs, e, h1, Rho.no_cut h2, Rps.cutN l vs h3 b⟩
  | .wls l, v, h, b => by
    obtain ⟨p, vs, e, h1, h2⟩ := h
    exact ⟨p, vs, e, h1, Rps.cutN l vs h2 b⟩
  | .loc m, v, h, b => by
    obtain ⟨a, e, h1⟩ := h
    have b' : m < n := b
    exact ⟨a, e, by unfold Rho.cut; simp only; rw [if_pos b']; exact h1⟩
  | .gl a, v, h, _ => h
  | .ty n, v, h, _ => h
  | .dic ks l, v, h, b => by
    obtain ⟨p, vs, e, h1, hl, h2, h3⟩ := h
    exact ⟨p, vs, e, h1, hl, Rho.no_cut h2, Rps.cutN l vs h3 b⟩
theorem Rps.cutN : ∀ (ds : List D) (vs : List V), Rps K ρ H ds vs → D.los n ds → Rps K (ρ.cut n) H ds vs
  | [], vs, h, _ => h
  | d :: ds, vs, h, b => by
    obtain ⟨v, r, e, h1, h2⟩ := h
    exact ⟨v, r, e, Rp.cut d v h1 b.1, Rps.cutN ds r h2 b.2⟩
end
theorem KVs.cut {κ : Type} : ∀ (l : List (κ × D)) (vs : List (κ × V)), KVs K ρ H l vs → kvBelow n l → KVs K (ρ.cut n) H l vs
  | [], _, h, _ => h
  | d :: ds, _, h, b => by obtain ⟨v, r, e, h1, h2⟩ := h; exact ⟨v, r, e, Rp.cut _ _ h1 b.1, KVs.cut ds r h2 b.2⟩
theorem OOk.cut {a : Addr} {o : O} (h : OOk K ρ H a o) (b : o.lo n) : OOk K (ρ.cut n) H a o := by
  cases o with
  | lst l => obtain ⟨vs, h1, h2⟩ := h; exact ⟨vs, h1, Rps.cutN l vs h2 b⟩
  | dct l => obtain ⟨vs, h1, h2⟩ := h; exact ⟨vs, h1, KVs.cut l vs h2 b⟩
  | dcT l => obtain ⟨vs, h1, h2⟩ := h; exact ⟨vs, h1, KVs.cut l vs h2 b⟩
  | ins C l => obtain ⟨dx, vs, h1, h2⟩ := h; exact ⟨dx, vs, h1, KVs.cut l vs h2 b⟩
mutual
theorem Rp.isLo (hd : ∀ m a, ρ.m m = some a → m < n) : ∀ (d : D) (v : V), Rp K ρ H d v → d.lo n
  | .non, v, h => trivial
  | .bl b, v, h => trivial
  | .int i, v, h => trivial
  | .str x, v, h => trivial
  | .tup l, v, h => by obtain ⟨p, vs, e, h1, h2⟩ := h; exact Rps.isLo hd l vs h2
  | .lst l, v, h => by obtain ⟨p, vs, e, h1, h2, h3⟩ := h; exact Rps.isLo hd l vs h3
  | .wls l, v, h => by obtain ⟨p, vs, e, h1, h2⟩ := h; exact Rps.isLo hd l vs h2
  | .loc m, v, h => by obtain ⟨a, e, h1⟩ := h; exact hd m a h1
  | .gl a, v, h => trivial
  | .ty n, v, h => trivial
  | .dic ks l, v, h => by obtain ⟨p, vs, e, h1, hl, h2, h3⟩ := h; exact Rps.isLo hd l vs h3
theorem Rps.isLo (hd : ∀ m a, ρ.m m = some a → m < n) : ∀ (ds : List D) (vs : List V), Rps K ρ H ds vs → D.los n ds
  | [], vs, h => trivial
  | d :: ds, vs, h => by obtain ⟨v, r, e, h1, h2⟩ := h; exact ⟨Rp.isLo hd d v h1, Rps.isLo hd ds r h2⟩
end
theorem KVs.isLo {κ : Type} (hd : ∀ m a, ρ.m m = some a → m < n) : ∀ (l : List (κ × D)) (vs : List (κ × V)), KVs K ρ H l vs → kvBelow n l
  | [], _, _ => trivial
  | d :: ds, _, h => by obtain ⟨v, r, e, h1, h2⟩ := h; exact ⟨Rp.isLo hd _ _ h1, KVs.isLo hd ds r h2⟩
theorem OOk.isLo (hd : ∀ m a, ρ.m m = some a → m < n) {a : Addr} {o : O} (h : OOk K ρ H a o) : o.lo n := by
  cases o with
  | lst l => obtain ⟨vs, h1, h2⟩ := h; exact Rps.isLo hd l vs h2
  | dct l => obtain ⟨vs, h1, h2⟩ := h; exact KVs.isLo hd l vs h2
  | dcT l => obtain ⟨vs, h1, h2⟩ := h; exact KVs.isLo hd l vs h2
  | ins C l => obtain ⟨dx, vs, h1, h2⟩ := h; exact KVs.isLo hd l vs h2
theorem gc_sok (hS : SOk K ρ S H) (hS' : SOk K ρ' S' H') (g : gcOk S S') : SOk K (ρ'.cut S.length) (S'.take S.length) H' := by
  refine ⟨fun i j a h1 h2 => ?_, fun i a h => ?_, fun i o e => ?_, fun a z => ?_⟩
  · unfold Rho.cut at h1 h2
    simp only at h1 h2
    split at h1
    · split at h2
      · exact hS'.inj i j a h1 h2
      · cases h2
    · cases h1
  · unfold Rho.cut at h
    simp only at h
    split at h
    · rename_i hi
      rw [List.length_take]
      have := g.1
      omega
    · cases h
  · have hi : i < S.length := by
      have := (List.getElem?_eq_some_iff.mp e).1
      rw [List.length_take] at this
      omega
    rw [List.getElem?_take_of_lt hi] at e
    obtain ⟨a, ha, ok⟩ := hS'.obj i o e
    refine ⟨a, by unfold Rho.cut; simp only; rw [if_pos hi]; exact ha, ok.cut ?_⟩
    rcases g.2 i hi with q | ⟨o', q, b⟩
    · rw [e] at q
      obtain ⟨a0, _, ok0⟩ := hS.obj i o q.symm
      exact ok0.isLo hS.dom
    · rw [e] at q; cases q; exact b
  · obtain ⟨h1, h2⟩ := hS'.prv a z
    refine ⟨h1, fun m q => ?_⟩
    unfold Rho.cut at q
    simp only at q
    split at q
    · exact h2 m q
    · cases q
theorem gc_stp (hS : SOk K ρ S H) (st : Stp ρ ρ' H H') : Stp ρ (ρ'.cut S.length) H H' where
  up m a h := by unfold Rho.cut; simp only; rw [if_pos (hS.dom m a h)]; exact st.up m a h
  new m a h := by
    unfold Rho.cut at h
    simp only at h
    split at h
    · exact st.new m a h
    · cases h
  pv := st.pv
  pvu := st.pvu
  keep := st.keep
  live := st.live
theorem gc_post {W : WX} {σ : L2.St} {r : R D} {Q : VK} (hS : SOk K ρ S H) (h : Post K W (Rp K) ρ H σ (gcR S r) Q) : Post K W (Rp K) ρ H σ r Q := by
  cases r with
  | ok d S' =>
    simp only [gcR] at h
    split at h
    · rename_i g
      intro ρ' H' v hS' st rv
      exact h (ρ'.cut S.length) H' v (gc_sok hS hS' g.1) (gc_stp hS st) (rv.cut _ _ g.2)
    · exact h.elim
  | exc C fs S' =>
    simp only [gcR] at h
    split at h
    · rename_i g
      intro ρ' H' d vs hS' st q1 q2 q3
      exact h (ρ'.cut S.length) H' d vs (gc_sok hS hS' g.1) (gc_stp hS st) (Rho.no_cut q1) q2 (KVs.cut _ _ q3 g.2)
    · exact h.elim
  | bad => exact h
end
/-! a list that the call made is handed on as one that stays -/
open Classical in
noncomputable def gcF (S : Sto) (r : R D) : R D := match r with
  | .ok d S' => match d with
    | .loc n => match S'[n]? with
      | some (.lst l) => if S.length ≤ n ∧ gcOk S S' ∧ D.los S.length l then .ok (.lst l) (S'.take S.length) else .bad
      | _ => .bad
    | _ => gcR S r
  | _ => gcR S r
section
variable {K : PySem.W.Frag} {ρ ρ' : Rho} {S S' : Sto} {H H' : Hp} {n : Nat}
theorem gcF_post {W : WX} {σ : L2.St} {r : R D} {Q : VK} (hS : SOk K ρ S H) (h : Post K W (Rp K) ρ H σ (gcF S r) Q) : Post K W (Rp K) ρ H σ r Q := by
  cases r with
  | ok d S' =>
    cases d with
    | loc n =>
      unfold gcF at h
      simp only at h
      split at h
      · rename_i l hn
        split at h
        · rename_i g
          intro ρ' H' v hS' st rv
          obtain ⟨p, rfl, e⟩ := rv
          obtain ⟨a1, e1, vs, hx, rr⟩ := hS'.obj n _ hn
          rw [e] at e1; cases e1
          refine h (ρ'.cut S.length) H' (.ref p) (gc_sok hS hS' g.2.1) (gc_stp hS st) ⟨p, vs, rfl, hx, ⟨fun m z => ?_, fun z => (hS'.prv p z).2 n e⟩, Rps.cutN _ _ rr g.2.2⟩
          unfold Rho.cut at z
          simp only at z
          split at z
          · have := hS'.inj m n p z e
            omega
          · cases z
        · exact h.elim
      · exact h.elim
    | _ => exact gc_post hS h
  | exc C fs S' => exact gc_post hS h
  | bad => exact gc_post hS h
end
section
variable {P : Program} {w : World} {K : PySem.W.Frag} {mg : Str → Option Value} {base : Heap} {x : Str} {st : Stmt} {N ps : List Str} {k : Nat} {m : FM}
theorem FD.gc (F : FD P w K mg base x st ps k m) : FD P w K mg base x st ps k (fun ds S => gcR S (m ds S)) := F.imp fun _ _ _ _ _ _ _ hS h => gc_post hS h
theorem FD.gcF (F : FD P w K mg base x st ps k m) : FD P w K mg base x st ps k (fun ds S => Mi.gcF S (m ds S)) := F.imp fun _ _ _ _ _ _ _ hS h => gcF_post hS h
end
/-! ### calls of defs -/
def mCall (np : Nat) (m : FM) (n : AM) : TM := fun env S => (n env S).bind fun ds S1 => if ds.length = np then m ds S1 else .bad
def gPerm {α : Type} (idx : List Nat) (us ws : List α) : List α := idx.filterMap fun i => (us ++ ws)[i]?
def mCallK (np n1 n2 : Nat) (idx : List Nat) (m : FM) (n nk : AM) : TM := fun env S => (n env S).bind fun ds S1 => (nk env S1).bind fun es S2 => if ds.length = n1 ∧ es.length = n2 then m (gPerm idx ds es) S2 else .bad
theorem gPerm_vals {idx : List Nat} {vs zs : List V} {us ws : List Value} (r1 : Vals vs us) (r2 : Vals zs ws) : Vals (gPerm idx vs zs) (gPerm idx us ws) := by
  have r := Vals.append r1 r2
  unfold gPerm
  induction idx with
  | nil => exact .nil
  | cons i idx ih =>
    rw [List.filterMap_cons, List.filterMap_cons]
    cases e : (vs ++ zs)[i]? with
    | none => rw [r.none_of e]; exact ih
    | some v =>
      obtain ⟨u, e2, rv⟩ := r.get e
      rw [e2]
      exact .cons rv ih
theorem gPerm_rps {K : PySem.W.Frag} {ρ : Rho} {H : Hp} {idx : List Nat} {ds es : List D} {vs zs : List V} (r1 : Rps K ρ H ds vs) (r2 : Rps K ρ H es zs) : Rps K ρ H (gPerm idx ds es) (gPerm idx vs zs) := by
  have r := r1.append r2
  unfold gPerm
  induction idx with
  | nil => rfl
  | cons i idx ih =>
    rw [List.filterMap_cons, List.filterMap_cons]
    cases e : (ds ++ es)[i]? with
    | none =>
      have e3 : (vs ++ zs)[i]? = none := by
        rw [List.getElem?_eq_none_iff] at e ⊢
        rw [← r.length]; exact e
      rw [e3]; exact ih
    | some v =>
      obtain ⟨u, e2, rv⟩ := r.get e
      rw [e2]
      exact ⟨u, _, rfl, rv, ih⟩
theorem funD_kb {K : PySem.W.Frag} {x qual : Str} {params : Arguments} {body : List Stmt} {scope : Scope} {kws : List (Str × V)} {f : Addr} {fd : FuncData} {ps : List Str} (F : FunD K x qual params body scope [] kws f fd) (n : Nat) (ks : List Str) (idx : List Nat)
    (h : ∀ (kV doc pm : Value) (an : Option Addr) (cdv ct : Value) (us ws : List Value), us.length = n → ws.length = ks.length → bindArgs (PySem.W.fnOf x qual params body scope .none kV doc pm an cdv ct) ⟨us, ks.zip ws⟩ = pure (ps.zip (gPerm idx us ws))) : KBn K fd ps n ks (gPerm idx) (gPerm idx) := by
  obtain ⟨oc, od, dV, kV, doc, pm, an, cdv, ct, osl, rfl, lk, hcd, hD, hK⟩ := F.ex
  rcases hD with ⟨_, rfl⟩ | ⟨e, _⟩
  · exact ⟨fun s us ws _ l1 l2 => .of_eq (h kV doc pm an cdv ct us ws l1 l2), fun r1 r2 => gPerm_vals r1 r2⟩
  · exact absurd rfl e
structure DK (X : Cx) (W : WX) (kws : List Keyword) (m : AM) : Prop where
  p : PK X kws (tA X.K W m)
section
variable {X : Cx} {W : WX} {x : Str} {p pos kpos : Pos} {e : Expr} {es : List Expr} {kws : List Keyword} {n nk : AM} {me : TM} {m : FM} {st : Stmt} {ps ks : List Str} {k : Nat} {nm : Option Str}
theorem PK.imp {e : List Keyword} {t t' : TA} (h : PK X e t) (i : ∀ σ H Q, t' σ H Q → t σ H Q) : PK X e t' := ⟨fun pos pins s σ H Q I q => h.run pos pins s σ H Q I (i σ H Q q)⟩
theorem k_nil : DK X W [] aNil := ⟨PK.imp pk_nil fun σ H Q ⟨ρ, S, env, hS, hE, h⟩ => h ρ H [] hS .refl rfl⟩
theorem k_cons (h : DE X W e me) (hr : DK X W kws nk) : DK X W (⟨nm, e, kpos⟩ :: kws) (aCons me nk) :=
  ⟨PK.imp (pk_cons h.p hr.p) fun σ H Q ⟨ρ, S, env, hS, hE, h⟩ => by
    refine Post.bindK hS hE h fun x H1 ρ1 S1 d1 hS1 hE1 st1 r1 h1 => ?_
    refine Post.bindK hS1 hE1 h1 fun y H2 ρ2 S2 l hS2 hE2 st2 r2 h2 => ?_
    exact h2 ρ2 H2 (x :: y) hS2 .refl ⟨x, y, rfl, r1.step hS1 st2, r2⟩⟩
/-- how the parameters are bound by position -/
def BindOk (x : Str) (st : Stmt) (ps : List Str) : Prop := ∀ (kV doc pm : Value) (an : Option Addr) (cdv ct : Value) (us : List Value), us.length = ps.length → bindArgs (PySem.W.fnOf x x (defArgs st) (defBody st) (defScope st) .none kV doc pm an cdv ct) ⟨us, []⟩ = pure (ps.zip us)
def BindKOk (x : Str) (st : Stmt) (ps : List Str) (n : Nat) (ks : List Str) (idx : List Nat) : Prop := ∀ (kV doc pm : Value) (an : Option Addr) (cdv ct : Value) (us ws : List Value), us.length = n → ws.length = ks.length →
  bindArgs (PySem.W.fnOf x x (defArgs st) (defBody st) (defScope st) .none kV doc pm an cdv ct) ⟨us, ks.zip ws⟩ = pure (ps.zip (gPerm idx us ws))
/-- the end of a call's reading -/
theorem call_end {K : PySem.W.Frag} {ρ : Rho} {S : Sto} {H : Hp} {σ : L2.St} {ds : List D} {vs : List V} {Q : VK} {np : Nat} (hS : SOk K ρ S H) (r : Rps K ρ H ds vs) (hl : ds.length = np) (h : Post K W (Rp K) ρ H σ (m ds S) Q) : spD K np m vs H Q (WE W σ) := by
  refine ⟨ρ, S, ds, hl, hS, r, ?_⟩
  revert h
  generalize m ds S = q
  intro h
  cases q with
  | ok d S1 => exact h
  | exc C fs S1 => exact h
  | bad => exact h
theorem d_call (F : FD X.prog X.w X.K X.mg X.base x st ps k m) (hb : BindOk x st ps) (hr : Room k X.A) (hg : Gl X x) (tk : Takes X W) (ha : DA X W (e :: es) n) (hdb : (x == ("__debug__" : Str)) = false := by decide)
    (he : starEach (e :: es) X.env = (false, eval e X.env) :: starEach es X.env := by rfl) (hpl : (backTo pos (starEach es X.env)).any (·.1) = false := by rfl) :
    DE X W (.Call (.Name x p) (e :: es) [] pos) (mCall ps.length m n) := by
  obtain ⟨f, fd, G, F⟩ := F.ex
  refine ⟨PE.imp (pe_callS F hr hg G.gl G.fn.kp (G.fn.bindsN hb) (E := WE W) (fun σ => passAt tk σ) ha.p hdb he hpl) fun σ H Q ⟨ρ, S, env, hS, hE, h⟩ => ?_⟩
  refine Post.bindK hS hE h fun vs H1 ρ1 S1 ds hS1 hE1 st1 r1 h1 => ?_
  split at h1
  · rename_i hl
    exact call_end hS1 r1 hl h1
  · exact h1.elim
theorem d_call0 (F : FD X.prog X.w X.K X.mg X.base x st [] k m) (hb : BindOk x st []) (hr : Room k X.A) (hg : Gl X x) (tk : Takes X W) (hdb : (x == ("__debug__" : Str)) = false := by decide) :
    DE X W (.Call (.Name x p) [] [] pos) (mCall 0 m aNil) := by
  obtain ⟨f, fd, G, F⟩ := F.ex
  refine ⟨⟨fun pins s σ H Q I h => ?_⟩⟩
  refine wpAny_Call_Name_kw (ld_glob I hg G.gl ?_ hdb)
  refine PySem.W.callWith_K0 I.kIn G.fn.kp ?_
  obtain ⟨ρ, S, env, hS, hE, h⟩ := h
  exact run_fnS (us := []) F hr (G.fn.bindsN hb) (passAt tk σ) I .nil (call_end (ds := []) hS rfl rfl h)
theorem run_kwS {pins : List (Addr × Obj)} {σ : L2.St} {H : Hp} {s : Shared} {Q : VK} {us ws : List Value} {vs zs : List V} {f : Addr} {fd : FuncData} {sp : Sp} {E : L2.St → XK} {n1 : Nat} {g : List Value → List Value → List Value} {gV : List V → List V → List V}
    (F : FnOk X.prog X.w X.K X.mg X.base (L2.CX X.prog X.w) k f fd ps sp) (hr : Room k X.A) (hb : KBn X.K fd ps n1 ks g gV) (hx : PassesAt (L2.CX X.prog X.w) X σ (E σ))
    (I : Inv X pins σ H s) (r : Vals vs us) (rz : Vals zs ws) (l1 : vs.length = n1) (l2 : zs.length = ks.length) (h : sp (gV vs zs) H Q (E σ)) : wpAny (model X.prog X.w) X.A (call (.ref f) us (ks.zip ws)) (EP X pins σ Q) X.xe s := by
  have r2 := hb.rel r rz
  refine wpAny_call (codeAny_mono (F.run X.A X.stack s H ⟨us, ks.zip ws⟩ (g us ws) (gV vs zs) Q (E σ) hr I.env0 (hb.to s us ws I.kIn (r.length.symm.trans l1) (rz.length.symm.trans l2)) r2 h) fun r s' hq => ?_)
  cases r with
  | error e => exact hx pins H s e s' I hq
  | ok fl =>
    cases fl with
    | ret u => exact I.after hq
    | next => exact False.elim hq
    | brk => exact False.elim hq
    | cont => exact False.elim hq
theorem d_callK {n1 : Nat} {idx : List Nat} (F : FD X.prog X.w X.K X.mg X.base x st ps k m) (hb : BindKOk x st ps n1 ks idx) (hi : idx.length = ps.length) (hi2 : ∀ i ∈ idx, i < n1 + ks.length) (hr : Room k X.A) (hg : Gl X x) (tk : Takes X W) (ha : DA X W (e :: es) n) (hk : DK X W kws nk)
    (hall : (backToKw pos (keywordEach kws X.env)).all (·.1.isSome) = true := by rfl) (hks : (backToKw pos (keywordEach kws X.env)).filterMap (·.1) = ks := by rfl)
    (hdb : (x == ("__debug__" : Str)) = false := by decide) (he : starEach (e :: es) X.env = (false, eval e X.env) :: starEach es X.env := by rfl)
    (hpl : ((backTo pos (starEach (e :: es) X.env)).any (·.1) || (backToKw pos (keywordEach kws X.env)).any (·.1.isNone)) = false := by rfl) :
    DE X W (.Call (.Name x p) (e :: es) kws pos) (mCallK ps.length n1 ks.length idx m n nk) := by
  obtain ⟨f, fd, G, F⟩ := F.ex
  refine ⟨⟨fun pins s σ H Q I h => ?_⟩⟩
  refine wpAny_Call_Name_kw (ld_glob I hg G.gl ?_ hdb)
  obtain ⟨ρ, S, env, hS, hE, h⟩ := h
  have hq : tA X.K W n σ H fun vs H1 => tA X.K W nk σ H1 fun zs H2 => vs.length = n1 ∧ zs.length = ks.length ∧ spD X.K ps.length m (gPerm idx vs zs) H2 Q (WE W σ) := by
    refine Post.bindK hS hE h fun vs H1 ρ1 S1 ds hS1 hE1 st1 r1 h1 => ?_
    refine Post.bindK hS1 hE1 h1 fun zs H2 ρ2 S2 es' hS2 hE2 st2 r2 h2 => ?_
    split at h2
    · rename_i hl
      refine ⟨by rw [← r1.length]; exact hl.1, by rw [← r2.length]; exact hl.2, call_end hS2 (gPerm_rps (Rps.step hS1 st2 _ _ r1) r2) ?_ h2⟩
      unfold gPerm
      rw [← hi]
      have all : ∀ i ∈ idx, ∃ d, (ds ++ es')[i]? = some d := fun i hmem => by
        have := hi2 i hmem
        have hlt : i < (ds ++ es').length := by rw [List.length_append, hl.1, hl.2]; exact this
        exact ⟨_, List.getElem?_eq_getElem hlt⟩
      clear h h1 h2 hi hi2 hb
      induction idx with
      | nil => rfl
      | cons i idx ih =>
        obtain ⟨d, hd⟩ := all i List.mem_cons_self
        rw [List.filterMap_cons, hd, List.length_cons, List.length_cons, ih fun j hj => all j (List.mem_cons_of_mem _ hj)]
    · exact h2.elim
  refine PySem.W.callWith_KW (h₀ := X.base) I.ok.mod.kin G.fn.kp hall (thn (ha.p.run pos pins s σ H _ I hq) fun us s1 ⟨vs, H1, I1, r, q⟩ => ?_) hpl he
  refine thn (hk.p.run pos pins s1 σ H1 _ I1 q) fun ws s2 ⟨zs, H2, I2, rz, l1, l2, q2⟩ => ⟨I2.kIn, ?_⟩
  rw [hks]
  exact run_kwS F hr (funD_kb G.fn n1 ks idx hb) (passAt tk σ) I2 r rz l1 l2 q2
theorem d_callK0 {idx : List Nat} (F : FD X.prog X.w X.K X.mg X.base x st ps k m) (hb : BindKOk x st ps 0 ks idx) (hi : idx.length = ps.length) (hi2 : ∀ i ∈ idx, i < 0 + ks.length) (hr : Room k X.A) (hg : Gl X x) (tk : Takes X W) (hk : DK X W kws nk)
    (hall : (backToKw pos (keywordEach kws X.env)).all (·.1.isSome) = true := by rfl) (hks : (backToKw pos (keywordEach kws X.env)).filterMap (·.1) = ks := by rfl)
    (hdb : (x == ("__debug__" : Str)) = false := by decide)
    (hpl : ((backTo pos (starEach [] X.env)).any (·.1) || (backToKw pos (keywordEach kws X.env)).any (·.1.isNone)) = false := by rfl) :
    DE X W (.Call (.Name x p) [] kws pos) (mCallK ps.length 0 ks.length idx m aNil nk) := by
  obtain ⟨f, fd, G, F⟩ := F.ex
  refine ⟨⟨fun pins s σ H Q I h => ?_⟩⟩
  refine wpAny_Call_Name_kw (ld_glob I hg G.gl ?_ hdb)
  obtain ⟨ρ, S, env, hS, hE, h⟩ := h
  have hq : tA X.K W nk σ H fun zs H2 => zs.length = ks.length ∧ spD X.K ps.length m (gPerm idx [] zs) H2 Q (WE W σ) := by
    refine Post.bindK hS hE h fun zs H2 ρ2 S2 es' hS2 hE2 st2 r2 h2 => ?_
    split at h2
    · rename_i hl
      refine ⟨by rw [← r2.length]; exact hl.2, call_end hS2 (gPerm_rps (ds := []) (vs := []) rfl r2) ?_ h2⟩
      unfold gPerm
      rw [← hi]
      have all : ∀ i ∈ idx, ∃ d, (([] : List D) ++ es')[i]? = some d := fun i hmem => by
        have := hi2 i hmem
        have hlt : i < (([] : List D) ++ es').length := by rw [List.length_append, hl.2]; exact this
        exact ⟨_, List.getElem?_eq_getElem hlt⟩
      clear h h2 hi hi2 hb
      induction idx with
      | nil => rfl
      | cons i idx ih =>
        obtain ⟨d, hd⟩ := all i List.mem_cons_self
        rw [List.filterMap_cons, hd, List.length_cons, List.length_cons, ih fun j hj => all j (List.mem_cons_of_mem _ hj)]
    · exact h2.elim
  refine PySem.W.callWith_KW0 (h₀ := X.base) I.ok.mod.kin G.fn.kp hall ?_ hpl
  refine thn (hk.p.run pos pins s σ H _ I hq) fun ws s2 ⟨zs, H2, I2, rz, l2, q2⟩ => ⟨I2.kIn, ?_⟩
  rw [hks]
  exact run_kwS (us := []) (vs := []) F hr (funD_kb G.fn 0 ks idx hb) (passAt tk σ) I2 .nil rz rfl l2 q2
/-! names of the module and of Python -/
theorem d_ty {v : String} (hg : Gl X x) (hm : X.mg x = none) (hv : bootBuiltins x = some (.type v)) (hn : x ≠ "__name__" := by decide) (hdb : (x == ("__debug__" : Str)) = false := by decide) : DE X W (.Name x pos) (mC (.ty v)) :=
  ⟨PE.imp (pe_bltn (v := .ty v) hg hm hv rfl hn hdb) fun σ H Q ⟨ρ, S, env, hS, hE, h⟩ => h ρ H (.ty v) hS .refl rfl⟩
theorem d_glob {d : D} {v : V} {u : Value} (hg : Gl X x) (hm : X.mg x = some u) (r : RelV v u) (hr : ∀ ρ H, Rp X.K ρ H d v) (hdb : (x == ("__debug__" : Str)) = false := by decide) : DE X W (.Name x pos) (mC d) :=
  ⟨PE.imp (pe_glob hg hm r hdb) fun σ H Q ⟨ρ, S, env, hS, hE, h⟩ => h ρ H v hS .refl (hr ρ H)⟩
theorem d_gint {i : Int} (hg : Gl X x) (hm : ∃ t, X.mg x = some (.int i t)) (hdb : (x == ("__debug__" : Str)) = false := by decide) : DE X W (.Name x pos) (mC (.int i)) := by
  obtain ⟨t, hm⟩ := hm
  exact d_glob (v := .int i) hg hm ⟨t, rfl⟩ (fun _ _ => rfl) hdb
theorem d_gstr {z : Str} (hg : Gl X x) (hm : ∃ t, X.mg x = some (.str z t)) (hdb : (x == ("__debug__" : Str)) = false := by decide) : DE X W (.Name x pos) (mC (.str z)) := by
  obtain ⟨t, hm⟩ := hm
  exact d_glob (v := .str z) hg hm ⟨t, rfl⟩ (fun _ _ => rfl) hdb
end
/-! a[::-1] of a list -/
def revD (S : Sto) (d : D) : Option (List D) := (lstD S d).map List.reverse
def mRev (m : TM) : TM := fun env S => (m env S).bind fun d S1 => match revD S1 d with
  | some l => .ok (.lst l) S1
  | none => .bad
def mRevN (m : TM) : TM := fun env S => (m env S).bind fun d S1 => match revD S1 d with
  | some l => R.new (.lst l) S1
  | none => .bad
theorem Rps.reverse {K : PySem.W.Frag} {ρ : Rho} {H : Hp} : ∀ {l : List D} {vs : List V}, Rps K ρ H l vs → Rps K ρ H l.reverse vs.reverse
  | [], _, h => by cases h; rfl
  | d :: ds, _, h => by
    obtain ⟨v, r, rfl, h1, h2⟩ := h
    rw [List.reverse_cons, List.reverse_cons]
    exact (Rps.reverse h2).append (es := [d]) (ws := [v]) ⟨v, [], rfl, h1, rfl⟩
section
variable {X : Cx} {W : WX} {e : Expr} {m : TM} {p1 p2 p3 pos : Pos} {k : Nat}
theorem d_rev (he : DE X W e m) : DE X W (.Subscript e (.Slice none none (some (.UnaryOp .USub (.Constant (.int 1) k p1) p2)) p3) pos) (mRev m) :=
  ⟨PE.imp (pe_revL he.p) fun σ H Q ⟨ρ, S, env, hS, hE, h⟩ => Post.bindK hS hE h fun v H1 ρ1 S1 d hS1 hE1 st1 r1 h1 => by
    unfold revD at h1
    cases hl : lstD S1 d with
    | none => rw [hl] at h1; exact h1.elim
    | some l =>
      rw [hl] at h1
      obtain ⟨p, vs, e1, h2, h3⟩ := der_lst hS1 r1 hl
      subst e1
      exact ⟨p, vs, rfl, h2, fun q hq => new_lst hS1 h3.reverse hq h1⟩⟩
theorem d_revN (he : DE X W e m) : DE X W (.Subscript e (.Slice none none (some (.UnaryOp .USub (.Constant (.int 1) k p1) p2)) p3) pos) (mRevN m) :=
  ⟨PE.imp (pe_revL he.p) fun σ H Q ⟨ρ, S, env, hS, hE, h⟩ => Post.bindK hS hE h fun v H1 ρ1 S1 d hS1 hE1 st1 r1 h1 => by
    unfold revD at h1
    cases hl : lstD S1 d with
    | none => rw [hl] at h1; exact h1.elim
    | some l =>
      rw [hl] at h1
      obtain ⟨p, vs, e1, h2, h3⟩ := der_lst hS1 r1 hl
      subst e1
      exact ⟨p, vs, rfl, h2, fun q hq => new_loc hS1 h3.reverse hq h1⟩⟩
end
end Mi

namespace Mi
open PySem PySem.Spec PyProof.Rows L2
/-! ### dict displays -/
section
variable {K : PySem.W.Frag} {ρ ρ' : Rho} {S S' : Sto} {H H' : Hp} {p : Addr} {env : En} {σ : L2.St}
theorem OOk.pupd {a : Addr} {ho : HO} {o : O} (hne : a ≠ p) (hp : ∀ u, H p = some u → Mk u) (pv : ρ.pv p) (ok : OOk K ρ H a o) : OOk K ρ (upd H p ho) a o := by
  cases o with
  | lst l => obtain ⟨vs, h1, h2⟩ := ok; exact ⟨vs, by rw [upd_ne hne]; exact h1, Rps.pupd hp pv l vs h2⟩
  | dct l => obtain ⟨vs, h1, h2⟩ := ok; exact ⟨vs, by rw [upd_ne hne]; exact h1, KVs.pupd hp pv l vs h2⟩
  | dcT l => obtain ⟨vs, h1, h2⟩ := ok; exact ⟨vs, by rw [upd_ne hne]; exact h1, KVs.pupd hp pv l vs h2⟩
  | ins C l => obtain ⟨dx, vs, h1, h2⟩ := ok; exact ⟨dx, vs, by rw [upd_ne hne]; exact h1, KVs.pupd hp pv l vs h2⟩
theorem SOk.pupdO {ho : HO} (hm : Mk ho) (hS : SOk K ρ S H) (pv : ρ.pv p) : SOk K ρ S (upd H p ho) := by
  obtain ⟨⟨u, h1, h2⟩, h3⟩ := hS.prv p pv
  have hp : ∀ u, H p = some u → Mk u := fun u' h => by rw [h1] at h; cases h; exact h2
  refine ⟨hS.inj, hS.dom, fun n o e => ?_, fun a z => ?_⟩
  · obtain ⟨a, ha, ok⟩ := hS.obj n o e
    have hne : a ≠ p := fun z => h3 n (by rw [← z]; exact ha)
    exact ⟨a, ha, ok.pupd hne hp pv⟩
  · by_cases hap : a = p
    · subst hap; exact ⟨⟨_, upd_same, hm⟩, h3⟩
    · obtain ⟨⟨u', h4, h5⟩, h6⟩ := hS.prv a z
      exact ⟨⟨u', by rw [upd_ne hap]; exact h4, h5⟩, h6⟩
theorem SOk.hideO {ho : HO} (hm : Mk ho) (hS : SOk K ρ S H) (hp : H p = none) : SOk K (ρ.hide p) S (upd H p ho) := by
  have b : ∀ n, ρ.m n ≠ some p := (hS.noN hp).1
  refine ⟨hS.inj, hS.dom, fun n o e => ?_, fun a z => ?_⟩
  · obtain ⟨a, ha, ok⟩ := hS.obj n o e
    have hne : a ≠ p := fun z => b n (by rw [← z]; exact ha)
    have ok1 : OOk K (ρ.hide p) H a o := OOk.re (ρ := ρ) (ρ' := ρ.hide p) (fun _ _ z => z) (hide_no hp) ok
    exact ⟨a, ha, ok1.pupd hne (hide_mk hp) (.inr rfl)⟩
  · rcases z with z | z
    · obtain ⟨⟨u', h4, h5⟩, h6⟩ := hS.prv a z
      exact ⟨⟨u', by rw [upd_ne (ne_of_none h4 hp)]; exact h4, h5⟩, h6⟩
    · subst z; exact ⟨⟨_, upd_same, hm⟩, b⟩
theorem EOk.hideO {ho : HO} (hE : EOk K ρ H env σ) (hp : H p = none) : EOk K (ρ.hide p) (upd H p ho) env σ :=
  (EOk.re (ρ := ρ) (ρ' := ρ.hide p) (fun _ _ z => z) (hide_no hp) hE).pupd (hide_mk hp) (.inr rfl)
theorem Stp.putO {ρ0 : Rho} {H0 : Hp} {ho : HO} (st : Stp ρ0 ρ H0 H) (hp : H0 p = none) : Stp ρ0 ρ H0 (upd H p ho) where
  up := st.up
  new := st.new
  pv := st.pv
  pvu := st.pvu
  keep a o h hn := by rw [upd_ne (ne_of_none h hp)]; exact st.keep a o h hn
  live a h := st.live a (upd_live h)
theorem hidden_obj {o : O} (hS : SOk K (ρ.hide p) S H) (ok : OOk K (ρ.hide p) H p o) (hv : ¬ ρ.pv p) : SOk K (ρ.put S.length p) (S ++ [o]) H ∧ Rp K (ρ.put S.length p) H (.loc S.length) (.ref p) := by
  have hm : ∀ n a, (ρ.hide p).m n = some a → (ρ.put S.length p).m n = some a := fun n a h => by
    unfold Rho.put
    simp only
    rw [if_neg (Nat.ne_of_lt (hS.dom n a h))]
    exact h
  have hn : ∀ (q : Addr) (u : HO), H q = some u → (ρ.hide p).no q → (ρ.put S.length p).no q := fun q vs _ h => by
    obtain ⟨h1, h2⟩ := Rho.no_hide h
    refine ⟨fun n z => ?_, h1.2⟩
    unfold Rho.put at z
    simp only at z
    split at z
    · cases z; exact h2 rfl
    · exact h1.1 n z
  have at_ : (ρ.put S.length p).m S.length = some p := by unfold Rho.put; simp
  have np := (hS.prv p (.inr rfl)).2
  refine ⟨⟨fun n m a h1 h2 => ?_, fun n a h => ?_, fun n o' e' => ?_, fun a h => ?_⟩, p, rfl, at_⟩
  · unfold Rho.put at h1 h2
    simp only at h1 h2
    split at h1 <;> split at h2
    · omega
    · cases h1; exact absurd h2 (np m)
    · cases h2; exact absurd h1 (np n)
    · exact hS.inj n m a h1 h2
  · unfold Rho.put at h
    simp only at h
    rw [List.length_append]
    split at h
    · simp; omega
    · have := hS.dom n a h; simp; omega
  · by_cases hlt : n < S.length
    · rw [List.getElem?_append_left hlt] at e'
      obtain ⟨a, ha, ok'⟩ := hS.obj n o' e'
      exact ⟨a, hm n a ha, ok'.re hm hn⟩
    · have hn' : n = S.length := by
        have := (List.getElem?_eq_some_iff.mp e').1
        simp at this; omega
      subst hn'
      simp at e'
      subst e'
      exact ⟨p, at_, ok.re hm hn⟩
  · obtain ⟨h1, h2⟩ := hS.prv a (.inl h)
    refine ⟨h1, fun n z => ?_⟩
    unfold Rho.put at z
    simp only at z
    split at z
    · cases z; exact hv h
    · exact h2 n z
end
def Prs (K : PySem.W.Frag) (ρ : Rho) (H : Hp) : List (D × D) → List (V × V) → Prop
  | [], vs => vs = []
  | d :: ds, vs => ∃ x y r, vs = (x, y) :: r ∧ Rp K ρ H d.1 x ∧ Rp K ρ H d.2 y ∧ Prs K ρ H ds r
abbrev PM := En → Sto → R (List (D × D))
structure DPs (X : Cx) (W : WX) (pos : Pos) (keys : List (Option Expr)) (values : List Expr) (n : PM) : Prop where
  ex : ∃ trs, PPs X pos keys values trs ∧ ∀ σ H Q, tG X.K W (Prs X.K) n σ H Q → tPairs trs σ H Q
def pNil : PM := fun _ S => .ok [] S
def pCons (mk mv : TM) (n : PM) : PM := fun env S => (mk env S).bind fun a S1 => (mv env S1).bind fun b S2 => (n env S2).bind fun l S3 => .ok ((a, b) :: l) S3
def kvsD : List (D × D) → Option (List (Key × D))
  | [] => some []
  | d :: ds => match keyD d.1, kvsD ds with
    | some k, some r => some ((k, d.2) :: r)
    | _, _ => none
def mergeD (l more : List (Key × D)) : List (Key × D) := more.foldl (fun acc kv => putD acc kv.1 kv.2) l
def mDict (n : PM) : TM := fun env S => (n env S).bind fun ps S1 => match kvsD ps with
  | some kvs => if kvs.length ≤ 15 then R.new (.dct (mergeD [] kvs)) S1 else .bad
  | none => .bad
section
variable {X : Cx} {W : WX} {pos : Pos} {k v : Expr} {ks : List (Option Expr)} {vs : List Expr} {mk mv : TM} {n : PM}
theorem p_nil : DPs X W pos [] [] pNil := ⟨[], pps_nil, fun σ H Q ⟨ρ, S, env, hS, hE, h⟩ => h ρ H [] hS .refl rfl⟩
theorem p_cons (hk : DE X W k mk) (hv : DE X W v mv) (hr : DPs X W pos ks vs n) : DPs X W pos (some k :: ks) (v :: vs) (pCons mk mv n) := by
  obtain ⟨trs, h1, h2⟩ := hr.ex
  refine ⟨_, pps_cons hk.p hv.p h1, fun σ H Q ⟨ρ, S, env, hS, hE, h⟩ => ?_⟩
  refine Post.bindK hS hE h fun x H1 ρ1 S1 d1 hS1 hE1 st1 r1 h1 => ?_
  refine Post.bindK hS1 hE1 h1 fun y H2 ρ2 S2 d2 hS2 hE2 st2 r2 h2' => ?_
  refine h2 σ H2 _ (Post.bindK hS2 hE2 h2' fun zs H3 ρ3 S3 l hS3 hE3 st3 r3 h3 => ?_)
  exact h3 ρ3 H3 _ hS3 .refl ⟨x, y, zs, rfl, Rp.step hS1 (st2.trans st3) _ _ r1, r2.step hS2 st3, r3⟩
theorem kvsD_ok {K : PySem.W.Frag} {ρ : Rho} {H : Hp} : ∀ {ps : List (D × D)} {vs : List (V × V)} {kvs : List (Key × D)}, Prs K ρ H ps vs → kvsD ps = some kvs → ∃ ws : List (Key × V), vs = ws.map (fun kv => (kV kv.1, kv.2)) ∧ KVs K ρ H kvs ws
  | [], vs, kvs, h, e => by cases h; cases e; exact ⟨[], rfl, rfl⟩
  | d :: ds, vs, kvs, h, e => by
    obtain ⟨x, y, r, rfl, h1, h2, h3⟩ := h
    unfold kvsD at e
    split at e
    · rename_i k r' ek er
      cases e
      obtain ⟨ws, rfl, q⟩ := kvsD_ok h3 er
      have := Rp.key h1 ek
      subst this
      exact ⟨(k, y) :: ws, rfl, y, ws, rfl, h2, q⟩
    · cases e
theorem KVs.merge {K : PySem.W.Frag} {ρ : Rho} {H : Hp} : ∀ {more : List (Key × D)} {ws : List (Key × V)} {l : List (Key × D)} {vs : List (Key × V)}, KVs K ρ H more ws → KVs K ρ H l vs → KVs K ρ H (mergeD l more) (mergeK vs ws)
  | [], _, _, _, h, h0 => by cases h; exact h0
  | d :: ds, _, _, _, h, h0 => by
    obtain ⟨v, r, rfl, h1, h2⟩ := h
    show KVs K ρ H (mergeD (putD _ d.1 d.2) ds) (mergeK (putK _ d.1 v) r)
    exact KVs.merge (more := ds) h2 (h0.put h1)
theorem d_dict (h : DPs X W pos ks vs n) (hall : ks.all (·.isSome) = true := by rfl) (hl : ks.length = vs.length := by rfl) (h0 : ks ≠ [] := by exact List.cons_ne_nil _ _) (h15 : ks.length ≤ 15 := by decide) : DE X W (.Dict ks vs pos) (mDict n) := by
  obtain ⟨trs, h1, h2⟩ := h.ex
  refine ⟨PE.imp (pe_disp h1 hall hl h0 h15) fun σ H Q ⟨ρ, S, env, hS, hE, h⟩ p hp => h2 _ _ _ ?_⟩
  have hv : ¬ ρ.pv p := (hS.noN hp).2
  have st0 : Stp ρ (ρ.hide p) H (upd H p (.dK [])) := Stp.hide (Stp.alloc hp) hp
  have hS0 : SOk X.K (ρ.hide p) S (upd H p (.dK [])) := hS.hideO trivial hp
  refine ⟨ρ.hide p, S, env, hS0, hE.hideO hp, ?_⟩
  unfold mDict at h
  revert h
  generalize n env S = r
  intro h
  cases r with
  | bad => exact h
  | exc C fs S1 => exact fun ρ4 H4 d xs q1 q2 q3 q4 q5 => h ρ4 H4 d xs q1 (st0.trans q2) q3 q4 q5
  | ok ps S1 =>
    intro ρ4 H4 us hS4 st4 r4
    have e4 : H4 p = some (.dK []) := st4.keep p _ upd_same (hS0.prv p (.inr rfl)).2
    obtain ⟨ρ5, rfl, hv5, st5⟩ := st4.unhide hv
    refine ⟨e4, ?_⟩
    rw [R.bind_ok] at h
    cases ek : kvsD ps with
    | none => rw [ek] at h; exact h.elim
    | some kvs =>
      rw [ek] at h
      simp only at h
      split at h
      · rename_i hlen
        obtain ⟨ws, rfl, rw_⟩ := kvsD_ok r4 ek
        refine ⟨ws, rfl, by rw [← rw_.length]; exact hlen, ?_⟩
        have mkp : ∀ u, H4 p = some u → Mk u := fun u hu => by rw [e4] at hu; cases hu; trivial
        have pv5 : (ρ5.hide p).pv p := .inr rfl
        have hS6 : SOk X.K (ρ5.hide p) S1 (upd H4 p (.dK (mergeK [] ws))) := SOk.pupdO trivial hS4 pv5
        have ok6 : OOk X.K (ρ5.hide p) (upd H4 p (.dK (mergeK [] ws))) p (.dct (mergeD [] kvs)) := ⟨_, upd_same, KVs.pupd mkp pv5 _ _ (KVs.merge rw_ rfl)⟩
        obtain ⟨g1, g2⟩ := hidden_obj hS6 ok6 hv5
        have stA : Stp ρ ρ5 H (upd H4 p (.dK (mergeK [] ws))) := ((Stp.alloc hp).trans st5).putO hp
        exact h _ _ _ g1 (hid_st stA hp fun m a q => Nat.ne_of_lt (hS6.dom m a (stA.up m a q))) g2
      · exact h.elim
end
end Mi

namespace Mi
open PySem PySem.Spec PyProof.Rows L2
theorem bt_len : bootBuiltins "len" = some (.builtin "len") := by decide +kernel
theorem bt_abs : bootBuiltins "abs" = some (.builtin "abs") := by decide +kernel
theorem bt_max : bootBuiltins "max" = some (.builtin "max") := by decide +kernel
theorem bt_min : bootBuiltins "min" = some (.builtin "min") := by decide +kernel
theorem bt_all : bootBuiltins "all" = some (.builtin "all") := by decide +kernel
theorem bt_any : bootBuiltins "any" = some (.builtin "any") := by decide +kernel
theorem bt_sum : bootBuiltins "sum" = some (.builtin "sum") := by decide +kernel
theorem bt_isinstance : bootBuiltins "isinstance" = some (.builtin "isinstance") := by decide +kernel
theorem bt_int : bootBuiltins "int" = some (.type "int") := by decide +kernel
theorem bt_bool : bootBuiltins "bool" = some (.type "bool") := by decide +kernel
theorem bt_str : bootBuiltins "str" = some (.type "str") := by decide +kernel
theorem bt_list : bootBuiltins "list" = some (.type "list") := by decide +kernel
theorem bt_tuple : bootBuiltins "tuple" = some (.type "tuple") := by decide +kernel
theorem bt_dict : bootBuiltins "dict" = some (.type "dict") := by decide +kernel
theorem takesW0 {X : Cx} : Takes X W0 := fun _ _ ⟨_, _, _, _, _, _, _, _, _, _, _, _, _, _, _, _, w⟩ => w.elim
theorem b_bad {X : Cx} {W : WX} {sts : List Stmt} : DB X W sts sBad := ⟨PSs.imp pss_never fun T σ H ⟨ρ, S, env, hS, hE, h⟩ => h⟩
/-! ### the end: a law -/
def spNo (sp : Sp) : Sp := fun vs H Q _ => sp vs H Q fun _ _ _ => False
theorem no_exc {P : Program} {w : World} {K : PySem.W.Frag} {mg : Str → Option Value} {base : Heap} {k : Nat} {f : Addr} {fd : FuncData} {ps : List Str} {sp : Sp} (F : FnOk P w K mg base (L2.CX P w) k f fd ps sp) : FnOk P w K mg base CX0 k f fd ps (spNo sp) :=
  ⟨fun vs H Q E q => F.len _ _ _ _ q, fun A outer s H args us vs Q E hr he hb hv hs => codeAny_mono (F.run A outer s H args us vs Q _ hr he hb hv hs) fun r s' h => by
    cases r with
    | ok fl =>
      cases fl with
      | ret u => exact h
      | _ => exact h
    | error e =>
      obtain ⟨_, _, _, _, _, _, _, _, _, _, _, _, q⟩ := h
      exact q⟩
def rho0 : Rho := ⟨fun _ => none, fun _ => False⟩
theorem sok0 {K : PySem.W.Frag} {H : Hp} : SOk K rho0 [] H := ⟨fun n m a h _ => (by cases h), fun n a h => (by cases h), fun n o h => (by simp at h), fun a h => False.elim h⟩
theorem rps_ints {K : PySem.W.Frag} {H : Hp} : ∀ ns : List Int, Rps K rho0 H (ns.map D.int) (ns.map V.int)
  | [] => rfl
  | n :: ns => ⟨_, _, rfl, rfl, rps_ints ns⟩
theorem law_sp {K : PySem.W.Frag} {m : FM} (hm : ∀ ns : List Int, ns.length ≤ 63 → ∀ d, (d = D.lst (ns.map D.int) ∨ d = D.wls (ns.map D.int)) → ∃ S, m [d] [] = .ok (.bl true) S)
    (H : Hp) (a : Addr) (ns : List Int) (hl : ns.length ≤ 63) (hS : SqL K H a (ns.map V.int)) : spNo (spD K 1 m) [.ref a] H (fun v _ => v = .bl true) fun _ _ _ => False := by
  have key : ∀ d, (d = D.lst (ns.map D.int) ∨ d = D.wls (ns.map D.int)) → Rp K rho0 H d (.ref a) → spNo (spD K 1 m) [.ref a] H (fun v _ => v = .bl true) fun _ _ _ => False := by
    intro d hd r
    obtain ⟨S, e⟩ := hm ns hl d hd
    refine ⟨rho0, [], [d], rfl, sok0, ⟨_, _, rfl, r, rfl⟩, ?_⟩
    rw [e]
    exact fun ρ' H' v _ _ q => q
  rcases hS with (h | h) | h
  · exact key _ (.inl rfl) ⟨a, _, rfl, h, ⟨fun n z => (by cases z), fun z => z⟩, rps_ints ns⟩
  · exact key _ (.inr rfl) ⟨a, _, rfl, .inl h, rps_ints ns⟩
  · exact key _ (.inr rfl) ⟨a, _, rfl, .inr h, rps_ints ns⟩
theorem fdEq {K : PySem.W.Frag} {x qual : Str} {params : Arguments} {body : List Stmt} {scope : Scope} {dvs : List V} {kws : List (Str × V)} {f : Addr} {fd fd' : FuncData} (F : FunD K x qual params body scope dvs kws f fd) (F' : FunD K x qual params body scope dvs kws f fd') : fd = fd' := by
  obtain ⟨_, _, _, _, _, _, _, _, _, _, _, l1, _⟩ := F.ex
  obtain ⟨_, _, _, _, _, _, _, _, _, _, _, l2, _⟩ := F'.ex
  rw [l1] at l2
  cases l2
  rfl
end Mi

namespace Mi
open PySem PySem.Spec PyProof.Rows L2
/-! ### name op= e, of whole numbers -/
def addID : G2 := fun _ a b => match a, b with
  | .int i, .int j => some (.int (i + j))
  | _, _ => none
def subID : G2 := fun _ a b => match a, b with
  | .int i, .int j => some (.int (i - j))
  | _, _ => none
section
variable {X : Cx}
theorem ipD_add : PIp X .Add (ipD X.K addID) := by
  intro pins s σ H x y v u Q I rx ry ⟨ρ, S, a, b, z, hS, ra, rb, e, q⟩
  unfold addID at e
  split at e
  · cases e; cases ra; cases rb
    exact ip_add pins s σ H _ _ v u Q I rx ry ⟨_, _, rfl, rfl, q ρ H _ hS .refl rfl⟩
  · cases e
theorem ipD_sub : PIp X .Sub (ipD X.K subID) := by
  intro pins s σ H x y v u Q I rx ry ⟨ρ, S, a, b, z, hS, ra, rb, e, q⟩
  unfold subID at e
  split at e
  · cases e; cases ra; cases rb
    exact ip_sub pins s σ H _ _ v u Q I rx ry ⟨_, _, rfl, rfl, q ρ H _ hS .refl rfl⟩
  · cases e
end
/-! ### chains of three comparisons -/
def tChain3 (r r' r'' : R2) (ta tb tc td : TE) : TE := fun σ H Q => ta σ H fun x H1 => tb σ H1 fun y H2 => r x y H2 fun z H3 => ∃ k, z = .bl k ∧
  (if k = true then tc σ H3 fun w' H4 => r' y w' H4 fun z' H5 => ∃ k', z' = .bl k' ∧ (if k' = true then td σ H5 fun u' H6 => r'' w' u' H6 Q else Q (.bl false) H5) else Q (.bl false) H3)
def mChain3 (g g' g'' : G2) (ma mb mc md : TM) : TM := fun env S => (ma env S).bind fun a S1 => (mb env S1).bind fun b S2 => match g S2 a b with
  | some (.bl true) => (mc env S2).bind fun c S3 => match g' S3 b c with
    | some (.bl true) => (md env S3).bind fun d S4 => R.of (g'' S4 c d) S4
    | some (.bl false) => .ok (.bl false) S3
    | _ => .bad
  | some (.bl false) => .ok (.bl false) S2
  | _ => .bad
section
variable {X : Cx} {W : WX} {a b c d : Expr} {ta tb tc td : TE} {ma mb mc md : TM} {pos : Pos}
theorem pe_chain3 {op op' op'' : CmpOp} {r r' r'' : R2} (ho : OpR X (compareOp op) r) (ho' : OpR X (compareOp op') r') (ho'' : OpR X (compareOp op'') r'') (ha : PE X a ta) (hb : PE X b tb) (hc : PE X c tc) (hd : PE X d td)
    (hm : lastMarks [op, op', op''] [b, c, d] = false := by with_unfolding_all rfl) : PE X (.Compare a [op, op', op''] [b, c, d] pos) (tChain3 r r' r'' ta tb tc td) := by
  refine ⟨fun pins s σ H Q I h => ?_⟩
  refine Compare_chain (thn (ha.run pins s σ H _ I h) fun v s1 ⟨x, H1, I1, r1, q1⟩ => chain_link (thn (hb.run pins s1 σ H1 _ I1 q1) fun u s2 ⟨y, H2, I2, r2, q2⟩ =>
    thn (ho pins s2 σ H2 x y v u _ I2 r1 r2 q2) fun d s3 ⟨z, H3, I3, r3, k, e, q3⟩ => ?_)) hm
  subst e
  cases r3
  refine wpAny_truthy_bool ?_
  cases k with
  | false => exact ite_ff ⟨.bl false, H3, I3, rfl, q3⟩
  | true =>
    refine ite_tt (chain_link (thn (hc.run pins s3 σ H3 _ I3 q3) fun w' s4 ⟨z', H4, I4, r4, q4⟩ => thn (ho' pins s4 σ H4 y z' u w' _ I4 r2 r4 q4) fun d' s5 ⟨z2, H5, I5, r5, k2, e2, q5⟩ => ?_))
    subst e2
    cases r5
    refine wpAny_truthy_bool ?_
    cases k2 with
    | false => exact ite_ff ⟨.bl false, H5, I5, rfl, q5⟩
    | true => exact ite_tt (chain_last (thn (hd.run pins s5 σ H5 _ I5 q5) fun w2 s6 ⟨z6, H6, I6, r6, q6⟩ => ho'' pins s6 σ H6 z' z6 w' w2 Q I6 r4 r6 q6))
theorem d_chain3 {op op' op'' : CmpOp} {g g' g'' : G2} (ho : OpR X (compareOp op) (rD X.K g)) (ho' : OpR X (compareOp op') (rD X.K g')) (ho'' : OpR X (compareOp op'') (rD X.K g'')) (ha : DE X W a ma) (hb : DE X W b mb) (hc : DE X W c mc) (hd : DE X W d md)
    (hm : lastMarks [op, op', op''] [b, c, d] = false := by with_unfolding_all rfl) : DE X W (.Compare a [op, op', op''] [b, c, d] pos) (mChain3 g g' g'' ma mb mc md) :=
  ⟨PE.imp (pe_chain3 ho ho' ho'' ha.p hb.p hc.p hd.p hm) fun σ H Q ⟨ρ, S, env, hS, hE, h⟩ => by
    refine Post.bindK hS hE h fun x H1 ρ1 S1 d1 hS1 hE1 st1 r1 h1 => ?_
    refine Post.bindK hS1 hE1 h1 fun y H2 ρ2 S2 d2 hS2 hE2 st2 r2 h2 => ?_
    cases e : g S2 d1 d2 with
    | none => rw [e] at h2; exact h2.elim
    | some z =>
      rw [e] at h2
      refine ⟨ρ2, S2, d1, d2, z, hS2, r1.step hS1 st2, r2, e, fun ρ3 H3 v3 hS3 st3 r3 => ?_⟩
      cases z with
      | bl k =>
        cases r3
        refine ⟨k, rfl, ?_⟩
        cases k with
        | false =>
          rw [if_neg Bool.false_ne_true]
          exact h2 ρ3 H3 (.bl false) hS3 st3 rfl
        | true =>
          rw [if_pos rfl]
          refine Post.bindK hS3 (hE2.step hS2 st3) (h2.step st3) fun w' H4 ρ4 S4 d4 hS4 hE4 st4 r4 h4 => ?_
          cases e' : g' S4 d2 d4 with
          | none => rw [e'] at h4; exact h4.elim
          | some z' =>
            rw [e'] at h4
            refine ⟨ρ4, S4, d2, d4, z', hS4, (r2.step hS2 st3).step hS3 st4, r4, e', fun ρ5 H5 v5 hS5 st5 r5 => ?_⟩
            cases z' with
            | bl k' =>
              cases r5
              refine ⟨k', rfl, ?_⟩
              cases k' with
              | false =>
                rw [if_neg Bool.false_ne_true]
                exact h4 ρ5 H5 (.bl false) hS5 st5 rfl
              | true =>
                rw [if_pos rfl]
                refine Post.bindK hS5 (hE4.step hS4 st5) (h4.step st5) fun u' H6 ρ6 S6 d6 hS6 hE6 st6 r6 h6 => ?_
                cases e'' : g'' S6 d4 d6 with
                | none => rw [e''] at h6; exact h6.elim
                | some z'' =>
                  rw [e''] at h6
                  exact ⟨ρ6, S6, d4, d6, z'', hS6, (r4.step hS4 st5).step hS5 st6, r6, e'', h6⟩
            | _ => exact h4.elim
      | _ => exact h2.elim⟩
end
end Mi

/-! enumerate of a tuple -/
namespace Mi.En
open PySem PySem.Spec PyProof.Rows L2
open Sem (wp)
open AutoSeq1 (wpAny_loadPart')
theorem made (t : Addr) (xs : Array Value) (k : Nat) (d : Option Addr) (sl : Array (Option Value)) :
    Meets (Builtin.«enumerate.__new__» ⟨[.type "enumerate", .ref t], []⟩) (fun _ R s => s.heap.get? t = some { cls := .type "tuple", dict := d, data := .seq xs k, slots := sl } ∧
      R (.ok (.ret (.ref (s.heap.push { cls := .type "tuple_iterator", data := .fields #[.ref t, .int 0 0] }).objs.size)))
        { s with heap := (s.heap.push { cls := .type "tuple_iterator", data := .fields #[.ref t, .int 0 0] }).push { cls := .type "enumerate", data := .fields #[.none, .bool false, .ref s.heap.objs.size, rawInt 0, .none, .none] } }) :=
  .of_wp fun prog w A R s h => by
    obtain ⟨hp, g, dr, tk, os⟩ := s
    obtain ⟨ht, h⟩ := h
    have sub := sub_enumerate
    have hT : Heap.IsTuple (Shared.heap ⟨hp, g, dr, tk, os⟩) t xs := ⟨_, ht, rfl, k, rfl⟩
    wp_walk using wpAny_loadPart' ht
    refine wpAny_stack_any fun st => wpAny_pure ?_
    split
    · rename_i c _ _ _ _ _
      cases (c == Value.type "enumerate")
      · wp_walk using wpAny_loadPart' ht, wpAny_pyIter_tuple hT
        exact ⟨_, rfl, h⟩
      · wp_walk using wpAny_loadPart' ht, wpAny_pyIter_tuple hT
        exact ⟨_, rfl, h⟩
    · wp_walk using wpAny_loadPart' ht, wpAny_pyIter_tuple hT
      exact ⟨_, rfl, h⟩
section
variable {prog : Program} {w : World} {A : Around} {E : Value → Shared → Prop} {s : Shared}
theorem called {t : Addr} {xs : Array Value} {Q : Value → Shared → Prop} (hT : s.heap.IsTuple t xs)
    (h : ∀ h', IsEnum h' (s.heap.objs.size + 1) s.heap.objs.size 0 .none → h'.IsTupleIter s.heap.objs.size t 0 → (∀ b o, s.heap.get? b = some o → h'.get? b = some o) → Q (.ref (s.heap.objs.size + 1)) { s with heap := h' }) :
    wpAny (model prog w) A (call (.type "enumerate") [.ref t]) Q E s := by
  obtain ⟨⟨c, d, dt, sl⟩, ht, hc, k, hd⟩ := hT
  have hc' : c = .type "tuple" := hc
  have hd' : dt = .seq xs k := hd
  subst hc' hd'
  refine callType_new F.called_enumerate (by decide) (F.typeCall_enumerate_1 _) (F.newCall_enumerate_1 _) (fun obj => F.args_object_init_2 obj _) F.entry_enumerate_new (made t xs k d sl) ⟨ht, ?_⟩
  generalize hh : s.heap.push { cls := .type "tuple_iterator", data := .fields #[.ref t, .int 0 0] } = h1
  have z : h1.objs.size = s.heap.objs.size + 1 := by rw [← hh]; exact Heap.size_push ..
  have g1 : h1.get? s.heap.objs.size = some { cls := .type "tuple_iterator", data := .fields #[.ref t, .int 0 0] } := by rw [← hh]; exact Heap.get?_push_size _ rfl
  have g2 : ∀ b o, s.heap.get? b = some o → h1.get? b = some o := fun b o q => by rw [← hh]; exact Heap.get?_push_of_some _ q
  show _ ∧ _
  rw [z]
  have he := Heap.get?_push_size h1 (o := { cls := .type "enumerate", data := .fields #[.none, .bool false, .ref s.heap.objs.size, rawInt 0, .none, .none] }) rfl
  rw [z] at he
  exact ⟨⟨_, he, rfl⟩, h _ he ⟨_, Heap.get?_push_of_some _ g1, rfl, rfl⟩ fun b o q => Heap.get?_push_of_some _ (g2 b o q)⟩
theorem draws (hh : A.handled = none) (it t : Addr) (hne : t ≠ it) (xs : Array Value) :
    Draws prog w A it [it, t] xs.size (fun i x => xs[i]? = some x) (fun i h => h.IsTupleIter it t i ∧ h.IsTuple t xs) where
  live := fun i h ⟨⟨o, ho, _⟩, _⟩ => ⟨o, ho⟩
  frame := fun i h h' ⟨a, o, ho, hc, k, hd⟩ q => ⟨a.at fun o z => q it (by simp) o z, o, q t (by simp) o ho, hc, k, hd⟩
  item := fun i s Q E hi ⟨a, b⟩ q => RZ.nextOf_tuple_item a b (x := xs[i]) (by simp [hi]) fun h' a' sb => by
    obtain ⟨o, ho, hc, k, hd⟩ := b
    exact q xs[i] h' s.toks (by simp [hi]) ⟨a', o, (sb.2 t hne).trans ho, hc, k, hd⟩ sb
  done := fun s Q E ⟨a, b⟩ q => RZ.nextOf_tuple_end hh a b (by simp) q
theorem ended {e it t : Addr} {i : Nat} {n : Int} {xs : Array Value} {old : Value} {Q : Option Value → Shared → Prop} (hh : A.handled = none) (he : IsEnum s.heap e it n old) (hit : s.heap.IsTupleIter it t i) (hT : s.heap.IsTuple t xs) (hx : xs[i]? = none)
    (hQ : ∀ h', Heap.ExtBut it s.heap h' → Q none { s with heap := h' }) : wpAny (model prog w) A (pyNext (.ref e)) Q E s := by
  have ty : s.TypeIs (.ref e) "enumerate" := ⟨_, he, rfl⟩
  unfold pyNext
  refine wpAny_bind (wpAny_attempt (wpAny_callSpecial?_slot (name := Str.ofString "__next__") ty F.slot_enumerate_next (wpAny_call_entry F.slot_enumerate_next ty F.entry_enumerate_next ?_ (F.args_enumerate_next_1 _))))
  show wpAny _ _ (field (.ref e) 2 >>= _) _ _ _
  refine wpAny_bind (wpAny_field he rfl (x := .ref it) rfl (wpAny_bind (RZ.nextOf_tuple_end hh hit hT hx fun h' x he' hx' => ?_)))
  obtain ⟨o, ho, hc⟩ := hx'
  exact wpAny_bind (wpAny_isInstance (T := "StopIteration") (b := true) ⟨o, ho, hc⟩ isSubtype_stop (wpAny_pure (hQ _ he')))
end
/-- the tuple at a, each item in a new pair with its number -/
def IteT (K : PySem.W.Frag) (a : Addr) : It where
  go i H := ∃ (xs : List V) (x : V), SqT K H a xs ∧ xs[i]? = some x
  yld i H v H' := ∃ T x, v = .ref T ∧ H T = none ∧ H' = upd H T (.tup [.int (i : Nat), x]) ∧ ∀ xs, SqT K H a xs → xs[i]? = some x
  stop i H := ∃ xs : List V, SqT K H a xs ∧ xs.length ≤ i
theorem turnT {P : Program} {w : World} {K : PySem.W.Frag} {elts : List Expr} {kk : Nat} {tpos : Pos} (a e it : Addr) :
    Turn P w K (.Tuple elts kk tpos) (IteT K a) [e, it] e (fun i h => (∃ old, IsEnum h e it ((i : Nat) : Int) old) ∧ h.IsTupleIter it a i ∧ (e ≠ it ∧ a ≠ it ∧ e ≠ a)) where
  mem := by simp
  obj := fun i h st b hb => by
    obtain ⟨⟨old, he⟩, ⟨o, ho, hc, hd⟩, _⟩ := st
    rcases (show b = e ∨ b = it by simpa using hb) with z | z
    · subst z; exact ⟨_, he, fun v q => nomatch q⟩
    · subst z; exact ⟨o, ho, fun v q => by rw [hd] at q; cases q⟩
  keep := fun i h h' st k => by
    obtain ⟨⟨old, he⟩, hi, hne⟩ := st
    exact ⟨⟨old, k e (by simp) _ he⟩, hi.at fun o q => k it (by simp) o q, hne⟩
  item := by
    intro X hP hw hK hc i pins s σ H E I hf st hg
    subst hP hw hK
    obtain ⟨⟨old, he⟩, hit, hne, hne2, hne3⟩ := st
    obtain ⟨xs, x, hq, hx⟩ := hg
    obtain ⟨its, rv, p, hz⟩ := I.tuple hq
    obtain ⟨u, hu, ru⟩ := rv.get hx
    have hel : e < s.heap.objs.size := Heap.lt_size he
    have hil : it < s.heap.objs.size := by obtain ⟨_, q, _⟩ := hit; exact Heap.lt_size q
    have hlt : i < its.length := (List.getElem?_eq_some_iff.mp hu).1
    have D := draws (prog := X.prog) (w := X.w) (A := X.A.in1) (I.ok.hd hc) it a hne2 its.toArray
    refine wpAny_pyNext_enum_itemD D he ⟨hit, p⟩ (by simpa using hlt) hne (by simp [hne, hne3]) fun y h' tk hy ho hst hT hsz hk => ?_
    have ey : y = u := by
      have e1 : its[i]? = some y := by simpa using hy
      rw [hu] at e1
      exact (Option.some.inj e1).symm
    subst ey
    refine ⟨_, rfl, wpAny_letOwnedTupleGo_enum (s := { s with heap := h', toks := tk + 1 }) ho fun h'' he' sb => ?_⟩
    have hT2 := (sb.2 _ (Nat.ne_of_gt hel)).trans hT
    have new : ObjOk X.prog X.w (upd H s.heap.objs.size (.tup [.int (i : Nat), x])) h'' s.heap.objs.size (.tup [.int (i : Nat), x]) :=
      ⟨by show 2 ≤ sizeLine; decide, [.int i tk, y], .cons ⟨_, rfl⟩ (.cons ru .nil), ⟨_, hT2, rfl, _, rfl⟩⟩
    have k2 : ∀ b ob, b ∉ [e, it] → s.heap.get? b = some ob → h''.get? b = some ob := fun b ob hb q =>
      (sb.2 b (fun z => hb (by simp [z]))).trans (hk b ob (fun z => hb (by simp [z])) (fun z => hb (by simp [z])) q)
    have I1 : Inv X pins σ (upd H s.heap.objs.size (.tup [.int (i : Nat), x])) { s with heap := h'', toks := tk + 1 } := I.turnedNew (ch := [e, it]) k2 hf (Nat.le_refl _) new
    refine ⟨.ref s.heap.objs.size, _, I1, rfl, ⟨_, x, rfl, I.hok.fresh (Nat.le_refl _), rfl, fun ys hy2 => by rw [I.tuple_inj hy2 hq]; exact hx⟩, ⟨⟨y, ?_⟩, hst.1.at fun o q => (sb.2 it (Ne.symm hne)).trans q, hne, hne2, hne3⟩, fun b hb => ?_⟩
    · rw [show ((i + 1 : Nat) : Int) = (i : Int) + 1 by omega]
      exact he'
    · have hb' : b < s.heap.objs.size := by
        rcases (show b = e ∨ b = it by simpa using hb) with z | z
        · rw [z]; exact hel
        · rw [z]; exact hil
      rw [upd_ne (Nat.ne_of_lt hb')]
      exact (hf b hb).1
  done := by
    intro X hP hw hK hc i pins s σ H E I hf st hg
    subst hP hw hK
    obtain ⟨⟨old, he⟩, hit, hne, hne2, hne3⟩ := st
    obtain ⟨xs, hq, hx⟩ := hg
    obtain ⟨its, rv, p, hz⟩ := I.tuple hq
    obtain ⟨f0, f1, f2, f3, f4, f5⟩ := hf it (by simp)
    have hl := rv.length
    exact ended (I.ok.hd hc) he hit p (by simp; omega) fun h' eb => ⟨rfl, I.turned (t' := s.toks) (fun b o hb q => eb b o hb q) f0 f1 f3 f4 f5⟩
  self := fun A i s Q E st h => by
    obtain ⟨⟨_, he⟩, _⟩ := st
    exact wpAny_pyIter_enum he h
def iEnumT (K : PySem.W.Frag) (ta : TA) : TI := fun σ H R => ta σ H fun vs H1 => ∃ a xs, vs = [.ref a] ∧ SqT K H1 a xs ∧ R (IteT K a) H1
theorem pi_enumT {X : Cx} {e : Expr} {ta : TA} {p pos tpos : Pos} {elts : List Expr} {kk : Nat} (hg : Gl X "enumerate") (hm : X.mg "enumerate" = none) (ha : PA X [e] ta) (hs : starEach [e] X.env = [(false, eval e X.env)] := by rfl) :
    PI X (.Tuple elts kk tpos) (.Call (.Name "enumerate" p) [e] [] pos) (iEnumT X.K ta) := by
  refine ⟨fun pins s σ H R I h => ?_⟩
  refine Call_ (ld_blt I hg hm boot_enumerate (PyProof.Rows.callWith_type1 (thn (ha.run pos pins s σ H _ I h) fun us s1 ⟨vs, H1, I1, r1, q1⟩ => ?_) hs rfl))
  obtain ⟨a, xs, ex, hq, q⟩ := q1
  subst ex
  cases r1 with
  | cons r rr =>
    cases rr
    cases r
    obtain ⟨its, rv, tp, hz⟩ := I1.tuple hq
    have hal : a < s1.heap.objs.size := by obtain ⟨_, z, _⟩ := tp; exact Heap.lt_size z
    refine called tp fun h' he hit hk => wpAny_pyIter_enum he ?_
    have I2 : Inv X pins σ H1 { s1 with heap := h' } := I1.kept (t' := s1.toks) hk
    refine ⟨s1.heap.objs.size + 1, [s1.heap.objs.size + 1, s1.heap.objs.size], _, _, H1, rfl, I2, turnT a (s1.heap.objs.size + 1) s1.heap.objs.size, ⟨⟨.none, he⟩, hit, Nat.succ_ne_self _, Nat.ne_of_lt hal, fun z => Nat.not_lt_of_le (Nat.le_succ _) (z ▸ hal)⟩, fun b hb => ?_, q⟩
    have hle : s1.heap.objs.size ≤ b := by
      rcases (show b = s1.heap.objs.size + 1 ∨ b = s1.heap.objs.size by simpa using hb) with z | z
      · rw [z]; exact Nat.le_succ _
      · rw [z]; exact Nat.le_refl _
    exact I1.fpOk hle (I1.hok.fresh hle)
end Mi.En
namespace Mi
open PySem PySem.Spec PyProof.Rows L2
def iEnT (n : AM) : IM := fun env S => (n env S).bind fun ds S1 => match ds with
  | [.tup l] => .ok (enumD l, fun _ => True) S1
  | _ => .bad
section
variable {K : PySem.W.Frag} {ρ : Rho} {S : Sto} {H : Hp}
theorem it_enumT {l : List D} {p : Addr} (hS : SOk K ρ S H) (r1 : Rp K ρ H (.tup l) (.ref p)) : ItOk K (En.IteT K p) (enumD l) (fun _ => True) ρ H := by
  refine ⟨fun i ρ' S' H' hi hS' st g => ?_, fun ρ' S' H' hS' st g => ?_, fun i ρ' S' H' x H2 hi hS' st g y => ?_⟩
  all_goals
    obtain ⟨vs, h2, h1⟩ := seq_at (v := .ref p) (l := l) hS r1 rfl hS' st trivial
    rcases h1 with ⟨_, h5⟩ | ⟨h1, _⟩
    case inl => exact absurd rfl (h5 l)
  · rw [enumD_length] at hi
    have i1 : i < vs.length := by rw [← h2.length]; omega
    exact ⟨vs, vs[i], h1, by simp [i1]⟩
  · rw [enumD_length]
    exact ⟨vs, h1, by rw [← h2.length]; omega⟩
  · obtain ⟨T, x1, rfl, hT, e3, y2⟩ := y
    obtain ⟨d1, g1, s1⟩ := YAt_get h2 (y2 vs h1)
    rw [enumD_length] at hi
    have gi := rangeD_get (lo := 0) hi
    rw [Int.zero_add] at gi
    obtain ⟨q1, q2, q3⟩ := new_pair (d := .int (i : Int)) hS' rfl s1 hT e3
    exact ⟨_, zipD_get gi g1, q1, q2, q3⟩
end
theorem i_enumT {X : Cx} {W : WX} {elts : List Expr} {kk : Nat} {tpos p pos : Pos} {e : Expr} {n : AM} (hg : Gl X "enumerate") (hm : X.mg "enumerate" = none) (ha : DA X W [e] n) (hs : starEach [e] X.env = [(false, eval e X.env)] := by rfl) : DI X W (.Tuple elts kk tpos) (.Call (.Name "enumerate" p) [e] [] pos) (iEnT n) :=
  ⟨PI.imp (En.pi_enumT hg hm ha.p hs) fun σ H Q ⟨ρ, S, env, hS, hE, h⟩ => tI.bindK hS hE h fun v H1 ρ1 S1 ds hS1 hE1 st1 r1 h1 => by
    match ds with
    | [.tup l] =>
      obtain ⟨w1, rfl, s1⟩ := r1.dest1
      obtain ⟨p, vs, rfl, h2, h3⟩ := id s1
      exact ⟨p, vs, rfl, h2.sq, h1 ρ1 H1 _ hS1 .refl (it_enumT hS1 s1)⟩
    | [] => exact False.elim h1
    | .non :: _ => exact False.elim h1
    | .bl _ :: _ => exact False.elim h1
    | .int _ :: _ => exact False.elim h1
    | .str _ :: _ => exact False.elim h1
    | .lst _ :: _ => exact False.elim h1
    | .wls _ :: _ => exact False.elim h1
    | .loc _ :: _ => exact False.elim h1
    | .gl _ :: _ => exact False.elim h1
    | .ty _ :: _ => exact False.elim h1
    | .dic _ _ :: _ => exact False.elim h1
    | .tup _ :: _ :: _ => exact False.elim h1⟩
end Mi

namespace Mi
open PySem PySem.Spec PyProof.Rows L2
/-! list(x) as a list that may change -/
def mListN (n : AM) : TM := fun env S => (n env S).bind fun ds S1 => match ds with
  | [d] => match seqD S1 d with
    | some l => R.new (.lst l) S1
    | none => .bad
  | _ => .bad
/-- sorted([a, b]) -/
def sort2D : GL := fun S ds => match ds with
  | [d] => match lstD S d with
    | some [.int a, .int b] => some (.lst [.int (if b < a then b else a), .int (if b < a then a else b)])
    | _ => none
  | _ => none
/-- l.index(x) -/
def idxD : GMt := fun S o ds => match ds with
  | [d] => match lstD S o with
    | some l => if SeqAt.shaped (der S d).py = true ∧ SeqAt.shaped (.list (D.pys l)) = true then ((D.pys l).findIdx? fun z => PyData.eqv z (der S d).py).map fun j => (.int (j : Int), S) else none
    | none => none
  | _ => none
section
variable {X : Cx} {W : WX} {p pos : Pos} {e : Expr} {n : AM}
theorem d_listN (hg : Gl X "list") (hm : X.mg "list" = none) (ha : DA X W [e] n) (he : starEach [e] X.env = (false, eval e X.env) :: starEach [] X.env := by rfl) (hpl : (backTo pos (starEach [] X.env)).any (·.1) = false := by rfl) : DE X W (.Call (.Name "list" p) [e] [] pos) (mListN n) :=
  ⟨PE.imp (pe_callTy call_list_of hg hm bt_list ha.p (by decide) (by decide) he hpl) fun σ H Q ⟨ρ, S, env, hS, hE, h⟩ => Post.bindK hS hE h fun vs H1 ρ1 S1 ds hS1 hE1 st1 r1 h1 => by
    rcases ds with _ | ⟨d, _ | ⟨d2, r⟩⟩
    · exact False.elim h1
    · cases hl : seqD S1 d with
      | none => simp only [hl] at h1; exact False.elim h1
      | some l =>
        simp only [hl] at h1
        obtain ⟨v, rfl, s1⟩ := r1.dest1
        obtain ⟨q, xs, rfl, h2, h3⟩ := der_seq hS1 s1 hl
        exact ⟨q, xs, rfl, h2.imp (·.1) (·.1.sq), fun z hz => new_loc hS1 h3 hz h1⟩
    · exact False.elim h1⟩
theorem two_ints {K : PySem.W.Frag} {ρ : Rho} {H : Hp} {a b : Int} {vs : List V} (h : Rps K ρ H [.int a, .int b] vs) : vs = [a, b].map V.int := by
  obtain ⟨v, r, rfl, h1, v2, r2, rfl, h2, h3⟩ := h
  cases h1; cases h2; cases h3
  rfl
theorem sort2_perm {a b : Int} {ns : List Int} (h : ns.Perm [a, b]) (s : ns.Pairwise (· ≤ ·)) : ns = [if b < a then b else a, if b < a then a else b] := by
  have hl := h.length_eq
  match ns, hl with
  | [x, y], _ =>
    have hxy : x ≤ y := by
      cases s with
      | cons h1 h2 => exact h1 y (by simp)
    have hx : x ∈ [a, b] := h.mem_iff.mp (by simp)
    have hy : (x = a ∧ y = b) ∨ (x = b ∧ y = a) := by
      simp at hx
      rcases hx with e | e
      · subst e
        have h2 : [y].Perm [b] := List.Perm.cons_inv h
        have : y ∈ [b] := h2.mem_iff.mp (by simp)
        simp at this
        exact .inl ⟨rfl, this⟩
      · subst e
        have h2 : [y].Perm [a] := List.Perm.cons_inv (h.trans (List.Perm.swap x a []))
        have : y ∈ [a] := h2.mem_iff.mp (by simp)
        simp at this
        exact .inr ⟨rfl, this⟩
    by_cases q : b < a
    · rw [if_pos q, if_pos q]
      congr 1
      · omega
      · congr 1; omega
    · rw [if_neg q, if_neg q]
      congr 1
      · omega
      · congr 1; omega
theorem cD_sort2 : CallR X (.builtin "sorted") (rL X.K sort2D) := by
  intro pins s σ H xs us Q I r ⟨ρ, S, ds, z, hS, rd, e, q⟩
  unfold sort2D at e
  split at e
  · rename_i d
    split at e
    · rename_i a b hl
      cases e
      obtain ⟨v, rfl, h1⟩ := rd.dest1
      obtain ⟨p, vs, rfl, h2, h3⟩ := der_lst hS h1 hl
      have e1 := two_ints h3
      subst e1
      exact cr_sortedI pins s σ H _ us Q I r ⟨p, [a, b], rfl, h2, fun ns' p' hp hs hn => by
        rw [sort2_perm hp hs]
        exact new_lst (l := [.int _, .int _]) hS ⟨_, _, rfl, rfl, _, _, rfl, rfl, rfl⟩ hn q⟩
    · cases e
  · cases e
theorem mD_idx (hu : X.A.units + 65 < cLine) : MtR X "list.index" (rM X.K idxD) := by
  intro pins s σ H x xs v us Q I rx rxs ⟨ρ, S, d, ds, z, S', hS, rd, rds, e, q⟩
  unfold idxD at e
  rcases ds with _ | ⟨d1, _ | ⟨d2, r⟩⟩
  · cases e
  · simp only at e
    cases hl : lstD S d with
    | none => rw [hl] at e; cases e
    | some l =>
      rw [hl] at e
      simp only at e
      split at e
      · rename_i hsh
        cases hf : (D.pys l).findIdx? fun z => PyData.eqv z (der S d1).py with
        | none => rw [hf] at e; cases e
        | some j =>
          rw [hf] at e
          cases e
          obtain ⟨w, rfl, r2⟩ := rds.dest1
          obtain ⟨p, vs, rfl, h2, h3⟩ := der_lst hS rd hl
          rw [List.findIdx?_eq_some_iff_getElem] at hf
          obtain ⟨hj, hj1, hj2⟩ := hf
          have c2 : PyData.canLayAll0 (D.pys l) = true := by
            have := SeqAt.canLay_of_shaped hsh.2
            simpa [PyData.canLay0] using this
          refine mt_indexD hu pins s σ H _ _ v us Q I rx rxs ⟨p, w, (der S d1).py, D.pys l, j, (D.pys l)[j], rfl, rfl, .lst h2 (Rps.dp l vs h3 c2), der_dp hS r2 (SeqAt.canLay_of_shaped hsh.1), hsh.2, hsh.1, by simp [hj], hj1, fun m z' hm hz => ?_, q ρ H _ hS .refl rfl⟩
          have hm2 : m < (D.pys l).length := by omega
          have e3 : (D.pys l)[m] = z' := by
            rw [List.getElem?_eq_getElem hm2] at hz
            exact Option.some.inj hz
          have := hj2 m hm
          rw [e3] at this
          simpa using this
      · cases e
  · cases e
end
end Mi

namespace Mi
open PySem PySem.Spec PyProof.Rows L2
theorem bt_sorted : bootBuiltins "sorted" = some (.builtin "sorted") := by decide +kernel
/-! enumerate of a list or a tuple -/
def iEnA (n : AM) : IM := fun env S => (n env S).bind fun ds S1 => match ds with
  | [.tup l] => .ok (enumD l, fun _ => True) S1
  | [a] => match lstD S1 a with
    | some l => .ok (enumD l, gdSeq a l) S1
    | _ => .bad
  | _ => .bad
theorem i_enumA {X : Cx} {W : WX} {elts : List Expr} {kk : Nat} {tpos p pos : Pos} {e : Expr} {n : AM} (hg : Gl X "enumerate") (hm : X.mg "enumerate" = none) (ha : DA X W [e] n) (hs : starEach [e] X.env = [(false, eval e X.env)] := by rfl) : DI X W (.Tuple elts kk tpos) (.Call (.Name "enumerate" p) [e] [] pos) (iEnA n) := by
  refine ⟨PI.imp (PI.or (i_enum (W := W) hg hm ha hs).p (i_enumT (W := W) hg hm ha hs).p) fun σ H Q ⟨ρ, S, env, hS, hE, h⟩ => ?_⟩
  have key : iEnA n env S = iEnD n env S ∨ iEnA n env S = iEnT n env S := by
    unfold iEnA iEnD iEnT
    cases n env S with
    | bad => exact .inl rfl
    | exc C fs S1 => exact .inl rfl
    | ok ds S1 =>
      rcases ds with _ | ⟨d, _ | ⟨d2, r⟩⟩
      · exact .inl rfl
      · cases d with
        | tup l => exact .inr rfl
        | _ => exact .inl rfl
      · cases d with
        | tup l => exact .inr rfl
        | _ => exact .inl rfl
  rcases key with k | k
  · rw [k] at h
    exact .inl ⟨ρ, S, env, hS, hE, h⟩
  · rw [k] at h
    exact .inr ⟨ρ, S, env, hS, hE, h⟩
end Mi

namespace MiR
open PySem PyProof.Rows
open PySem.SeqAt
open PySem.AutoSeq1 (wpAny_loadPart')
open PySem.MeetsSeq PySem.MeetsSeq2 PySem.MeetsSeq3
/-! ### t[::-1], t a tuple -/
section
variable {prog : Program} {w : World} {A : Around} {E : Value → Shared → Prop} {s : Shared}
theorem applied_rev {sl : Addr} {vl vu vs : Value} {n : Nat} {Q : Int × Int × Nat → Shared → Prop} (hs : s.heap.IsSliceOf sl vl vu vs) (pl : IsPart vl none) (pu : IsPart vu none) (ps : IsPart vs (some (-1)))
    (h : Q ((n : Int) - 1, -1, n) s) : wpAny (model prog w) A (Builtin.Slice.sliceApplied (.ref sl) (pure (n : Int))) Q E s := by
  obtain ⟨os, hos, hcs, hds⟩ := id hs
  unfold Builtin.Slice.sliceApplied Builtin.Slice.sliceFields
  refine wpAny_bind (wpAny_bind (wpAny_field hos hds (x := vl) rfl (wpAny_bind (wpAny_field hos hds (x := vu) rfl (wpAny_bind (wpAny_field hos hds (x := vs) rfl (wpAny_pure ?_)))))))
  refine wpAny_bind (HT.slicePart_ ps ?_)
  show wpAny _ _ (if ((-1 : Int) == 0) = true then _ else _) _ _ s
  rw [if_neg (by decide)]
  refine wpAny_bind (HT.slicePart_ pl (wpAny_bind (HT.slicePart_ pu (wpAny_bind (wpAny_pure ?_)))))
  show wpAny _ _ (pure (((n : Int) - 1, (-1 : Int), Builtin.Slice.slicePlaces ((n : Int) - 1) (-1) (-1)))) _ _ s
  have e : Builtin.Slice.slicePlaces ((n : Int) - 1) (-1) (-1) = n := by
    unfold Builtin.Slice.slicePlaces
    have h1 : ¬ ((-1 : Int) > 0) := by decide
    simp only [h1, if_false]
    by_cases q : (n : Int) - 1 > -1
    · rw [if_pos q, show (- -1 : Int) = 1 by decide, Int.ediv_one]; omega
    · rw [if_neg q]; omega
  rw [e]
  exact wpAny_pure h
theorem pick_rev (xs : Array Value) : ((List.range xs.size).filterMap fun (m : Nat) => xs[((xs.size : Int) - 1 + (m : Int) * -1).toNat]?).toArray = xs.toList.reverse.toArray := by
  have e : ((List.range xs.size).filterMap fun (m : Nat) => xs[((xs.size : Int) - 1 + (m : Int) * -1).toNat]?) = ((List.range xs.size).map fun k => xs.size - 1 - k).filterMap (xs[·]?) := by
    rw [List.filterMap_map]
    have cg : ∀ (l : List Nat), (∀ m ∈ l, m < xs.size) → l.filterMap (fun (m : Nat) => xs[((xs.size : Int) - 1 + (m : Int) * -1).toNat]?) = l.filterMap ((xs[·]?) ∘ fun k => xs.size - 1 - k) := fun l => by
      induction l with
      | nil => intro _; rfl
      | cons m l ih =>
        intro hl
        have e1 : xs[((xs.size : Int) - 1 + (m : Int) * -1).toNat]? = ((xs[·]?) ∘ fun k => xs.size - 1 - k) m := by
          show xs[((xs.size : Int) - 1 + (m : Int) * -1).toNat]? = xs[xs.size - 1 - m]?
          have := hl m List.mem_cons_self
          rw [show ((xs.size : Int) - 1 + (m : Int) * -1).toNat = xs.size - 1 - m by omega]
        rw [List.filterMap_cons, List.filterMap_cons, e1, ih fun k hk => hl k (List.mem_cons_of_mem _ hk)]
    exact cg _ fun m hm => List.mem_range.mp hm
  rw [e, PySem.W.krv_range, List.filterMap_reverse, PySem.W.krv_all]
theorem getItem_tuple_rev {t sl : Addr} {items : Array Value} {vl vu vs : Value} {Q : Value → Shared → Prop} (ht : IsTup s.heap t items) (hs : s.heap.IsSliceOf sl vl vu vs) (pl : IsPart vl none) (pu : IsPart vu none) (ps : IsPart vs (some (-1)))
    (h : Q (.ref s.heap.objs.size) { s with heap := s.heap.push { cls := .type "tuple", data := .seq items.toList.reverse.toArray } })
    (hsz : items.size ≤ sizeLine) : wpAny (model prog w) A (getItem (.ref t) (.ref sl)) Q E s := by
  have htake : sizeOk (.seq items.toList.reverse.toArray) := by
    show items.toList.reverse.toArray.size ≤ sizeLine
    rw [List.size_toArray, List.length_reverse, Array.length_toList]
    exact hsz
  obtain ⟨os, hos, hcs, hds⟩ := id hs
  have hTs : s.TypeIs (.ref sl) "slice" := ⟨os, hos, hcs⟩
  unfold getItem
  try with_reducible refine wpAny_holding ?_
  first | refine wpAny_bind (wpAny_pure ?_) | skip
  refine wpAny_bind (wpAny_sequenceKey ht.typeIs (by decide) ?_)
  refine wpAny_bind (wpAny_callSpecial?_slot (name := Str.ofString "__getitem__") ht.typeIs PyProof.Rows.slot_tuple_getitem
    (wpAny_call_entry PyProof.Rows.slot_tuple_getitem ht.typeIs entry_tuple_getitem ?_ (args_tuple_getitem _ _)))
  show wpAny _ _ (Builtin.Tuple.tupleItemsOf (.ref t) >>= _) _ _ s
  refine wpAny_bind (tupleItemsOf_ ht ?_)
  refine wpAny_bind (wpAny_typeOf hTs ?_)
  rw [if_pos (by decide)]
  refine wpAny_bind (applied_rev hs pl pu ps ?_)
  have hno : ¬ ((((items.size : Int) - 1) == 0 && (-1 : Int) == 1 && items.size == items.size) = true) := by
    intro q
    rw [Bool.and_eq_true, Bool.and_eq_true] at q
    exact absurd q.1.2 (by decide)
  show wpAny _ _ (if (((items.size : Int) - 1) == 0 && (-1 : Int) == 1 && items.size == items.size) = true then _ else _) _ _ s
  rw [if_neg hno, pick_rev]
  first
    | exact wpAny_bind (m := Builtin.Tuple.tupleExact _) (wpAny_newObj_type (wpAny_pure ⟨_, rfl, wpAny_pure h⟩) htake)
    | exact wpAny_bind (m := Builtin.Tuple.tupleExact _) (wpAny_newObj_type (wpAny_bind (wpAny_pure (wpAny_pure ⟨_, rfl, wpAny_pure h⟩))) htake)
    | exact wpAny_bind (wpAny_bind (m := Builtin.Tuple.tupleExact _) (wpAny_newObj_type (wpAny_pure (wpAny_pure ⟨_, rfl, wpAny_pure h⟩)) htake))
    | exact wpAny_bind (wpAny_bind (m := Builtin.Tuple.tupleExact _) (wpAny_newObj_type (wpAny_pure ⟨_, rfl, wpAny_pure h⟩) htake))
end
end MiR
namespace Mi
open PySem PySem.Spec PyProof.Rows L2
/-- a[::-1] of a list or a tuple -/
def tRevA (K : PySem.W.Frag) (te : TE) : TE := fun σ H Q => te σ H fun x H1 => ∃ a xs, x = .ref a ∧ ((SqL K H1 a xs ∧ ∀ p, H1 p = none → Q (.ref p) (upd H1 p (.lst xs.reverse))) ∨ (SqT K H1 a xs ∧ ∀ p, H1 p = none → Q (.ref p) (upd H1 p (.tup xs.reverse))))
section
variable {X : Cx}
theorem pe_revA {e : Expr} {te : TE} {k : Nat} {p1 p2 p3 pos : Pos} (he : PE X e te) : PE X (.Subscript e (.Slice none none (some (.UnaryOp .USub (.Constant (.int 1) k p1) p2)) p3) pos) (tRevA X.K te) := by
  refine ⟨fun pins s σ H Q I h => ?_⟩
  refine Subscript_ (thn (he.run pins s σ H _ I h) fun v s1 ⟨x, H1, I1, r1, q1⟩ => ?_)
  obtain ⟨a, xs, ex, q⟩ := q1
  subst ex
  cases r1
  have hst : PO X (some (.UnaryOp .USub (.Constant (.int 1) k p1) p2)) (tPart (tUn (rU fun i => .int (-i)) (tC (.int 1)))) := po_some (pe_un un_neg pe_int)
  refine wpAny_Slice (thn (po_none.run pins s1 σ H1 (fun o H2 => o = none ∧ H2 = H1) I1 ⟨rfl, rfl⟩) fun vl s2 ⟨l, H2, I2, pl, el, e2⟩ => ?_)
  subst el e2
  refine thn (po_none.run pins s2 σ H2 (fun o H3 => o = none ∧ H3 = H2) I2 ⟨rfl, rfl⟩) fun vu s3 ⟨u, H3, I3, pu, eu, e3⟩ => ?_
  subst eu e3
  refine thn (hst.run pins s3 σ H3 (fun o H4 => o = some (-1) ∧ H4 = H3) I3 ⟨1, rfl, -1, rfl, rfl, rfl⟩) fun vs s4 ⟨o, H4, I4, ps, eo, e4⟩ => ?_
  subst eo e4
  have I5 : Inv X pins σ H4 { s4 with heap := s4.heap.push { cls := .type "slice", data := .fields #[vl, vu, vs] } } := I4.kept (t' := s4.toks) fun b ob q => Heap.get?_push_of_some _ q
  show wpAny (model X.prog X.w) X.A (subscriptTail e (.Slice none none (some (.UnaryOp .USub (.Constant (.int 1) k p1) p2)) p3) (.ref a) (.ref s4.heap.objs.size)) (EP X pins σ Q) X.xe { s4 with heap := s4.heap.push { cls := .type "slice", data := .fields #[vl, vu, vs] } }
  rcases q with ⟨hx, q⟩ | ⟨hx, q⟩
  · obtain ⟨its, r, ht, hz⟩ := I5.list hx
    have hlen := r.length
    refine tail_any (ops := [.ref a, .ref s4.heap.objs.size]) ht.isList.typeIs (PySem.slot_list_getitem.lookup) ?_ (by with_unfolding_all rfl)
    refine wpAny_getItem_list_slice ht.isList (Heap.IsSliceOf.new _ vl vu vs) pl pu ps (by decide) ?_ (by rw [List.size_toArray]; omega)
    rw [PySem.W.krv_pick]
    refine ⟨.ref _, _, I5.laid (t' := s4.toks) (o := .lst xs.reverse) (fun b ob q => Heap.get?_push_of_some _ q) (Nat.le_refl _) ?_, rfl, q _ (I5.hok.fresh (Nat.le_refl _))⟩
    exact ⟨by rw [List.length_reverse]; exact hz, _, 0, r.reverse, Heap.get?_push_size _ rfl⟩
  · obtain ⟨its, r, ht, hz⟩ := I5.tuple hx
    have hlen := r.length
    refine tail_any (ops := [.ref a, .ref s4.heap.objs.size]) ht.typeIs (PyProof.Rows.slot_tuple_getitem.lookup) ?_ (by with_unfolding_all rfl)
    refine MiR.getItem_tuple_rev ht (Heap.IsSliceOf.new _ vl vu vs) pl pu ps ?_ (by rw [List.size_toArray]; omega)
    refine ⟨.ref _, _, I5.laid (t' := s4.toks) (o := .tup xs.reverse) (fun b ob q => Heap.get?_push_of_some _ q) (Nat.le_refl _) ?_, rfl, q _ (I5.hok.fresh (Nat.le_refl _))⟩
    exact ⟨by rw [List.length_reverse]; exact hz, _, r.reverse, IsTup.new _ _⟩
end
/-- a[::-1] -/
def revA (S : Sto) (d : D) : Option D := match d with
  | .tup l => some (.tup l.reverse)
  | d => (lstD S d).map fun l => .lst l.reverse
def mRevA (m : TM) : TM := fun env S => (m env S).bind fun d S1 => R.of (revA S1 d) S1
section
variable {X : Cx} {W : WX} {e : Expr} {m : TM} {p1 p2 p3 pos : Pos} {k : Nat}
theorem d_revA (he : DE X W e m) : DE X W (.Subscript e (.Slice none none (some (.UnaryOp .USub (.Constant (.int 1) k p1) p2)) p3) pos) (mRevA m) :=
  ⟨PE.imp (pe_revA he.p) fun σ H Q ⟨ρ, S, env, hS, hE, h⟩ => Post.bindK hS hE h fun v H1 ρ1 S1 d hS1 hE1 st1 r1 h1 => by
    have lists : ∀ l, lstD S1 d = some l → Post X.K W (Rp X.K) ρ1 H1 σ (R.ok (.lst l.reverse) S1) Q → ∃ a xs, v = .ref a ∧ ((SqL X.K H1 a xs ∧ ∀ p, H1 p = none → Q (.ref p) (upd H1 p (.lst xs.reverse))) ∨ (SqT X.K H1 a xs ∧ ∀ p, H1 p = none → Q (.ref p) (upd H1 p (.tup xs.reverse)))) := fun l hl h2 => by
      obtain ⟨p, vs, e1, h3, h4⟩ := der_lst hS1 r1 hl
      exact ⟨p, vs, e1, .inl ⟨h3, fun q hq => new_lst hS1 h4.reverse hq h2⟩⟩
    unfold revA at h1
    split at h1
    · rename_i l
      obtain ⟨p, vs, e1, h3, h4⟩ := r1
      exact ⟨p, vs, e1, .inr ⟨h3.sq, fun q hq => new_tup hS1 h4.reverse hq h1⟩⟩
    · cases hl : lstD S1 d with
      | none => rw [hl] at h1; exact h1.elim
      | some l => rw [hl] at h1; exact lists l hl h1⟩
end
end Mi

namespace Mi
open PySem PySem.Spec PyProof.Rows L2
/-! ### dict displays that stay -/
def dicD (kvs : List (Key × D)) : D := .dic ((mergeD [] kvs).map (·.1)) ((mergeD [] kvs).map (·.2))
def mDic (n : PM) : TM := fun env S => (n env S).bind fun ps S1 => match kvsD ps with
  | some kvs => if kvs.length ≤ 15 then .ok (dicD kvs) S1 else .bad
  | none => .bad
def mDic0 : TM := fun _ S => .ok (.dic [] []) S
theorem KVs.split {K : PySem.W.Frag} {ρ : Rho} {H : Hp} : ∀ {l : List (Key × D)} {vs : List (Key × V)}, KVs K ρ H l vs → vs = (l.map (·.1)).zip (vs.map (·.2)) ∧ Rps K ρ H (l.map (·.2)) (vs.map (·.2))
  | [], _, h => by cases h; exact ⟨rfl, rfl⟩
  | d :: ds, _, h => by
    obtain ⟨v, r, rfl, h1, h2⟩ := h
    obtain ⟨e, rr⟩ := KVs.split h2
    refine ⟨?_, v, _, rfl, h1, rr⟩
    show _ = (d.1, v) :: (ds.map (·.1)).zip (r.map (·.2))
    rw [← e]
section
variable {X : Cx} {W : WX} {pos : Pos} {k v : Expr} {ks : List (Option Expr)} {vs : List Expr} {mk mv : TM} {n : PM}
theorem d_dic (h : DPs X W pos ks vs n) (hall : ks.all (·.isSome) = true := by rfl) (hl : ks.length = vs.length := by rfl) (h0 : ks ≠ [] := by exact List.cons_ne_nil _ _) (h15 : ks.length ≤ 15 := by decide) : DE X W (.Dict ks vs pos) (mDic n) := by
  obtain ⟨trs, h1, h2⟩ := h.ex
  refine ⟨PE.imp (pe_disp h1 hall hl h0 h15) fun σ H Q ⟨ρ, S, env, hS, hE, h⟩ p hp => h2 _ _ _ ?_⟩
  have hv : ¬ ρ.pv p := (hS.noN hp).2
  have st0 : Stp ρ (ρ.hide p) H (upd H p (.dK [])) := Stp.hide (Stp.alloc hp) hp
  have hS0 : SOk X.K (ρ.hide p) S (upd H p (.dK [])) := hS.hideO trivial hp
  refine ⟨ρ.hide p, S, env, hS0, hE.hideO hp, ?_⟩
  unfold mDic at h
  revert h
  generalize n env S = r
  intro h
  cases r with
  | bad => exact h
  | exc C fs S1 => exact fun ρ4 H4 d xs q1 q2 q3 q4 q5 => h ρ4 H4 d xs q1 (st0.trans q2) q3 q4 q5
  | ok ps S1 =>
    intro ρ4 H4 us hS4 st4 r4
    have e4 : H4 p = some (.dK []) := st4.keep p _ upd_same (hS0.prv p (.inr rfl)).2
    obtain ⟨ρ5, rfl, hv5, st5⟩ := st4.unhide hv
    refine ⟨e4, ?_⟩
    rw [R.bind_ok] at h
    cases ek : kvsD ps with
    | none => rw [ek] at h; exact h.elim
    | some kvs =>
      rw [ek] at h
      simp only at h
      split at h
      · rename_i hlen
        obtain ⟨ws, rfl, rw_⟩ := kvsD_ok r4 ek
        refine ⟨ws, rfl, by rw [← rw_.length]; exact hlen, ?_⟩
        have mkp : ∀ u, H4 p = some u → Mk u := fun u hu => by rw [e4] at hu; cases hu; trivial
        have pv5 : (ρ5.hide p).pv p := .inr rfl
        have hS6 : SOk X.K (ρ5.hide p) S1 (upd H4 p (.dK (mergeK [] ws))) := SOk.pupdO trivial hS4 pv5
        have kv6 : KVs X.K (ρ5.hide p) (upd H4 p (.dK (mergeK [] ws))) (mergeD [] kvs) (mergeK [] ws) := KVs.pupd mkp pv5 _ _ (KVs.merge rw_ rfl)
        have kv7 := KVs.re (ρ := ρ5.hide p) (ρ' := ρ5) (fun _ _ z => z) unh _ _ kv6
        obtain ⟨e7, r7⟩ := KVs.split kv7
        have stA : Stp ρ ρ5 H (upd H4 p (.dK (mergeK [] ws))) := ((Stp.alloc hp).trans st5).putO hp
        exact h _ _ _ hS6.unhide stA ⟨p, _, rfl, by rw [← e7]; exact upd_same, by simp, ⟨(hS6.prv p (.inr rfl)).2, hv5⟩, r7⟩
      · exact h.elim
theorem d_dic0 : DE X W (.Dict [] [] pos) mDic0 :=
  ⟨PE.imp pe_dnewK fun σ H Q ⟨ρ, S, env, hS, hE, h⟩ p hp => by
    have hS1 := hS.alloc (o := .dK []) hp
    exact h ρ _ _ hS1 (Stp.alloc hp) ⟨p, [], rfl, upd_same, rfl, hS.noN hp, rfl⟩⟩
end
/-! ### x == [] and x == () -/
def emptyB (S : Sto) (a b : D) : Option Bool := match der S b with
  | .lst [] => match der S a with
    | .lst l => some l.isEmpty
    | _ => none
  | .tup [] => match der S a with
    | .tup l => some l.isEmpty
    | _ => none
  | _ => none
def eq0D : G2 := fun S a b => (emptyB S a b).map .bl
def ne0D : G2 := fun S a b => (emptyB S a b).map fun c => .bl (!c)
theorem emptyB_ok {K : PySem.W.Frag} {ρ : Rho} {S : Sto} {H : Hp} {a b : D} {x y : V} {k : Bool} (hS : SOk K ρ S H) (ra : Rp K ρ H a x) (rb : Rp K ρ H b y) (e : emptyB S a b = some k) :
    ∃ p q xs, x = .ref p ∧ y = .ref q ∧ k = xs.isEmpty ∧ ((SqL K H p xs ∧ SqL K H q []) ∨ (SqT K H p xs ∧ SqT K H q [])) := by
  have lists : ∀ {d : D} {v : V} {l : List D}, Rp K ρ H d v → der S d = .lst l → ∃ p xs, v = .ref p ∧ SqL K H p xs ∧ xs.isEmpty = l.isEmpty := fun {d v l} r hd => by
    have : lstD S d = some l := by simp [lstD, hd]
    obtain ⟨p, vs, e1, h2, h3⟩ := der_lst hS r this
    refine ⟨p, vs, e1, h2, ?_⟩
    have := h3.length
    cases vs <;> cases l <;> simp_all
  have tups : ∀ {d : D} {v : V} {l : List D}, Rp K ρ H d v → der S d = .tup l → ∃ p xs, v = .ref p ∧ SqT K H p xs ∧ xs.isEmpty = l.isEmpty := fun {d v l} r hd => by
    have : d = .tup l := by
      cases d with
      | loc n =>
        unfold der at hd
        simp only at hd
        split at hd <;> cases hd
      | _ => exact hd
    subst this
    obtain ⟨p, vs, e1, h2, h3⟩ := r
    refine ⟨p, vs, e1, h2.sq, ?_⟩
    have := h3.length
    cases vs <;> cases l <;> simp_all
  unfold emptyB at e
  split at e
  · rename_i hb
    split at e
    · rename_i l ha
      cases e
      obtain ⟨p, xs, e1, h1, h2⟩ := lists ra ha
      obtain ⟨q, ys, e3, h3, h4⟩ := lists rb hb
      have : ys = [] := by simpa using h4
      subst this
      exact ⟨p, q, xs, e1, e3, h2.symm, .inl ⟨h1, h3⟩⟩
    · cases e
  · rename_i hb
    split at e
    · rename_i l ha
      cases e
      obtain ⟨p, xs, e1, h1, h2⟩ := tups ra ha
      obtain ⟨q, ys, e3, h3, h4⟩ := tups rb hb
      have : ys = [] := by simpa using h4
      subst this
      exact ⟨p, q, xs, e1, e3, h2.symm, .inr ⟨h1, h3⟩⟩
    · cases e
  · cases e
theorem vals_nil {us : List Value} (r : Vals [] us) : us = [] := by cases r; rfl
section
variable {X : Cx}
theorem opD_eq0 (hu : X.A.units + 64 < cLine) : OpR X (compareOp .Eq) (rD X.K eq0D) := by
  intro pins s σ H x y v u Q I rx ry ⟨ρ, S, a, b, z, hS, ra, rb, e, q⟩
  unfold eq0D at e
  cases ek : emptyB S a b with
  | none => rw [ek] at e; cases e
  | some k =>
    rw [ek] at e
    cases e
    obtain ⟨p, p', xs, rfl, rfl, ek', h⟩ := emptyB_ok hS ra rb ek
    cases rx
    cases ry
    have hu0 : X.A.units < cLine := by omega
    have fin : ∃ x' H', Inv X pins σ H' s ∧ RelV x' (.bool k) ∧ Q x' H' := ⟨.bl k, H, I, rfl, q ρ H _ hS .refl rfl⟩
    rcases h with ⟨h1, h2⟩ | ⟨h1, h2⟩
    · obtain ⟨its, r, ht, hz⟩ := I.list h1
      obtain ⟨its2, r2, ht2, hz2⟩ := I.list h2
      have e2 := vals_nil r2
      subst e2
      by_cases hx : xs = []
      · subst hx
        have e3 := vals_nil r
        subst e3
        refine SeqAt.eq_listAt (e := fun _ => true) ht.isList ht2.isList rfl hu0 (fun j h1 => absurd h1 (Nat.not_lt_zero _)) ?_
        rw [ek'] at fin
        exact fin
      · have hl : its.length ≠ 0 := by rw [← r.length]; exact fun z => hx (List.length_eq_zero_iff.mp z)
        refine SeqAt.eq_list_lengthsAt ht.isList ht2.isList (by simp [bne, hl]) hu0 ?_
        have : k = false := by rw [ek']; cases xs <;> simp_all
        rw [this] at fin
        exact fin
    · obtain ⟨its, r, ht, hz⟩ := I.tuple h1
      obtain ⟨its2, r2, ht2, hz2⟩ := I.tuple h2
      have e2 := vals_nil r2
      subst e2
      refine SeqAt.eq_tupleAt (e := fun _ => true) ht ht2 hu0 (fun j h1 h2 => absurd h2 (Nat.not_lt_zero _)) ?_
      have hk : k = ((List.range (min its.toArray.size (#[] : Array Value).size)).all (fun _ => true) && its.toArray.size == (#[] : Array Value).size) := by
        rw [ek']
        have := r.length
        cases xs <;> cases its <;> simp_all
      rw [hk] at fin
      exact fin
theorem opD_ne0 (hu : X.A.units + 64 < cLine) : OpR X (compareOp .NotEq) (rD X.K ne0D) := by
  intro pins s σ H x y v u Q I rx ry ⟨ρ, S, a, b, z, hS, ra, rb, e, q⟩
  unfold ne0D at e
  cases ek : emptyB S a b with
  | none => rw [ek] at e; cases e
  | some k =>
    rw [ek] at e
    cases e
    obtain ⟨p, p', xs, rfl, rfl, ek', h⟩ := emptyB_ok hS ra rb ek
    cases rx
    cases ry
    have hu0 : X.A.units < cLine := by omega
    have fin : ∃ x' H', Inv X pins σ H' s ∧ RelV x' (.bool (!k)) ∧ Q x' H' := ⟨.bl (!k), H, I, rfl, q ρ H _ hS .refl rfl⟩
    rcases h with ⟨h1, h2⟩ | ⟨h1, h2⟩
    · obtain ⟨its, r, ht, hz⟩ := I.list h1
      obtain ⟨its2, r2, ht2, hz2⟩ := I.list h2
      have e2 := vals_nil r2
      subst e2
      by_cases hx : xs = []
      · subst hx
        have e3 := vals_nil r
        subst e3
        refine SeqAt.RcNeAt.lists (e := fun _ => true) ht.isList ht2.isList rfl hu0 (fun j h1 => absurd h1 (Nat.not_lt_zero _)) X.prog X.w _ _ ?_
        rw [ek'] at fin
        exact fin
      · have hl : its.length ≠ 0 := by rw [← r.length]; exact fun z => hx (List.length_eq_zero_iff.mp z)
        refine SeqAt.RcNeAt.lists_lengths ht.isList ht2.isList (by simp [bne, hl]) hu0 X.prog X.w _ _ ?_
        have : k = false := by rw [ek']; cases xs <;> simp_all
        rw [this] at fin
        exact fin
    · obtain ⟨its, r, ht, hz⟩ := I.tuple h1
      obtain ⟨its2, r2, ht2, hz2⟩ := I.tuple h2
      have e2 := vals_nil r2
      subst e2
      refine SeqAt.RcNeAt.tuples (e := fun _ => true) ht ht2 hu0 (fun j h1 h2 => absurd h2 (Nat.not_lt_zero _)) X.prog X.w _ _ ?_
      have hk : k = ((List.range (min its.toArray.size (#[] : Array Value).size)).all (fun _ => true) && its.toArray.size == (#[] : Array Value).size) := by
        rw [ek']
        have := r.length
        cases xs <;> cases its <;> simp_all
      rw [hk] at fin
      exact fin
end
end Mi

namespace Mi
open PySem PySem.Spec PyProof.Rows L2
/-! ### slices, of texts too -/
def slA (S : Sto) (a : D) (lo hi : Option Int) : Option D := match a with
  | .str z => if z.length ≤ 16777216 then some (.str (cutS z lo hi)) else none
  | d => slD S d lo hi
def mSlA (m : TM) (lo hi : En → Sto → R (Option Int)) : TM := fun env S => (m env S).bind fun a S1 => (lo env S1).bind fun l S2 => (hi env S2).bind fun u S3 => R.of (slA S3 a l u) S3
/-- str(i) -/
def strD : GL := fun _ ds => match ds with
  | [.int i] => if i.natAbs.log2 < 1920 then some (.str (toString i)) else none
  | _ => none
section
variable {X : Cx} {W : WX} {a b c : Expr} {ma mb mc : TM} {n : AM} {pos p2 : Pos} {lo hi : Option Expr} {ml mh : En → Sto → R (Option Int)}
theorem d_slA (h : DE X W a ma) (hl : DO X W lo ml) (hu : DO X W hi mh) : DE X W (.Subscript a (.Slice lo hi none p2) pos) (mSlA ma ml mh) :=
  ⟨PE.imp (pe_slice (SlR.or sl_str (SlR.or sl_tupA sl_list)) h.p hl.p hu.p) fun σ H Q ⟨ρ, S, env, hS, hE, h⟩ => by
    refine Post.bindK hS hE h fun x H1 ρ1 S1 d1 hS1 hE1 st1 r1 h1 => ?_
    refine Post.bindK hS1 hE1 h1 fun y H2 ρ2 S2 o1 hS2 hE2 st2 r2 h2 => ?_
    refine Post.bindK hS2 hE2 h2 fun z H3 ρ3 S3 o2 hS3 hE3 st3 r3 h3 => ?_
    cases r2; cases r3
    have r1' := (r1.step hS1 st2).step hS2 st3
    cases e : slA S3 d1 y z with
    | none => rw [e] at h3; exact h3.elim
    | some d =>
      rw [e] at h3
      have lists : ∀ (p1 : Addr) (xs : List V) (l : List D), x = .ref p1 → SqL X.K H3 p1 xs → Rps X.K ρ3 H3 l xs → d = .lst (cutD l y z) → rSlL X.K x y z H3 Q := by
        intro p1 xs l ex hx rr ed
        subst ex ed
        exact ⟨p1, xs, rfl, hx, fun p hp => new_lst hS3 (rr.cut y z) hp h3⟩
      cases d1 with
      | str w =>
        unfold slA at e
        simp only at e
        split at e
        · rename_i hw
          cases e
          cases r1'
          exact .inl ⟨w, rfl, by rw [sizeLine16]; exact hw, h3 ρ3 H3 _ hS3 .refl rfl⟩
        · cases e
      | tup l =>
        cases e
        obtain ⟨p1, xs, rfl, hx, rr⟩ := r1'
        refine .inr (.inl ⟨p1, xs, rfl, hx.sq, fun hw => ?_, fun _ p hp => new_tup hS3 (rr.cut y z) hp h3⟩)
        refine h3 ρ3 H3 (.ref p1) hS3 .refl ⟨p1, xs, rfl, hx, ?_⟩
        have : cutD l y z = l := by
          unfold cutD
          rw [rr.length, hw.1, hw.2]
          rw [List.drop_zero, Nat.sub_zero, ← rr.length, List.take_length]
        rw [this]; exact rr
      | lst l =>
        cases e
        obtain ⟨p1, xs, ex, hx, _, rr⟩ := r1'
        exact .inr (.inr (lists p1 xs l ex (SqL.of hx) rr rfl))
      | wls l =>
        cases e
        obtain ⟨p1, xs, ex, hx, rr⟩ := r1'
        exact .inr (.inr (lists p1 xs l ex hx.sq rr rfl))
      | loc n =>
        obtain ⟨p1, ex, hx⟩ := r1'
        unfold slA slD der at e
        simp only at e
        cases hn : S3[n]? with
        | none => rw [hn] at e; cases e
        | some o =>
          rw [hn] at e
          cases o with
          | lst l =>
            cases e
            obtain ⟨a1, e1, xs, hx', rr⟩ := hS3.obj n _ hn
            rw [hx] at e1; cases e1
            exact .inr (.inr (lists p1 xs l ex (SqL.of hx') rr rfl))
          | _ => cases e
      | _ => cases e⟩
theorem cD_str : CallR X (.type "str") (rL X.K strD) := by
  intro pins s σ H xs us Q I r ⟨ρ, S, ds, z, hS, rd, e, q⟩
  unfold strD at e
  split at e
  · rename_i i
    split at e
    · rename_i hi
      cases e
      obtain ⟨v, rfl, h1⟩ := rd.dest1
      cases h1
      exact call_str_int pins s σ H _ us Q I r ⟨i, rfl, hi, q ρ H _ hS .refl rfl⟩
    · cases e
  · cases e
/-! ### list(range(n)) -/
def rngR (d : D) (S1 : Sto) : R D := match d with
  | .int j => if 0 ≤ j ∧ j ≤ 16777216 then .ok (.lst (rangeD 0 j.toNat)) S1 else .bad
  | _ => .bad
def mLstRg (m : TM) : TM := fun env S => (m env S).bind rngR
theorem rps_rg {K : PySem.W.Frag} {ρ : Rho} {H : Hp} : ∀ (l : List Nat), Rps K ρ H (l.map fun (i : Nat) => D.int (0 + (i : Int))) (l.map fun (i : Nat) => V.int ((i : Int)))
  | [] => rfl
  | a :: l => ⟨_, _, rfl, by show V.int (a : Int) = V.int (0 + (a : Int)); rw [Int.zero_add], rps_rg l⟩
theorem d_lstRg {e : Expr} {m : TM} {p p' pos pos' : Pos} (hc : X.calm = true) (hg : Gl X "list") (hm : X.mg "list" = none) (hg' : Gl X "range") (hm' : X.mg "range" = none) (he : DE X W e m)
    (na : starEach [e] X.env = (false, eval e X.env) :: starEach [] X.env := by rfl)
    (nb : starEach [Expr.Call (.Name "range" p') [e] [] pos'] X.env = (false, eval (Expr.Call (.Name "range" p') [e] [] pos') X.env) :: starEach [] X.env := by rfl) :
    DE X W (.Call (.Name "list" p) [.Call (.Name "range" p') [e] [] pos'] [] pos) (mLstRg m) :=
  ⟨PE.imp (pe_listRg hc hg hm (prg_1 hg' hm' he.p na) nb) fun σ H Q ⟨ρ, S, env, hS, hE, h⟩ => Post.bindK hS hE h fun v H1 ρ1 S1 d hS1 hE1 st1 r1 h1 => by
    unfold rngR at h1
    split at h1
    · rename_i j
      split at h1
      · rename_i hj
        cases r1
        refine ⟨j, rfl, RgOk.of_le (by omega) (by omega) (by omega) (by omega), fun q hq => ?_⟩
        have e1 : rgV 0 j = (List.range j.toNat).map fun (i : Nat) => V.int ((i : Int)) := by
          unfold rgV
          rw [Int.sub_zero]
          simp
        rw [e1]
        exact new_lst hS1 (rps_rg _) hq h1
      · exact h1.elim
    · exact h1.elim⟩
end
end Mi

namespace Mi
open PySem PySem.Spec PyProof.Rows L2
/-! ### sorted(l), l a list of tuples: a text first, ints behind it -/
abbrev SK := List (Int ⊕ List Nat)
def shp : Nat → Bool := fun i => i == 0
def keyVs : Nat → List V → Option SK
  | _, [] => some []
  | i, .int n :: r => if shp i = true then none else (keyVs (i + 1) r).map (Sum.inl n :: ·)
  | i, .str x :: r => if shp i = true then (keyVs (i + 1) r).map (Sum.inr x.cps.toList :: ·) else none
  | _, _ => none
def keyDs : Nat → List D → Option SK
  | _, [] => some []
  | i, .int n :: r => if shp i = true then none else (keyDs (i + 1) r).map (Sum.inl n :: ·)
  | i, .str x :: r => if shp i = true then (keyDs (i + 1) r).map (Sum.inr x.cps.toList :: ·) else none
  | _, _ => none
def tkD : D → Option SK
  | .tup (d :: l) => keyDs 0 (d :: l)
  | _ => none
theorem keyVs_items : ∀ {xs : List V} {us : List Value} {i : Nat} {k : SK}, Vals xs us → keyVs i xs = some k → tupItems shp i us = some k
  | _, _, _, _, .nil, h => h
  | x :: xs, u :: us, i, k, .cons r t, h => by
    cases x with
    | int n =>
      obtain ⟨tk, rfl⟩ := r
      simp only [keyVs] at h
      simp only [tupItems]
      by_cases hs : shp i = true
      · rw [if_pos hs] at h; cases h
      · rw [if_neg hs] at h ⊢
        cases hk : keyVs (i + 1) xs with
        | none => rw [hk] at h; cases h
        | some k' => rw [hk] at h; rw [keyVs_items t hk]; exact h
    | str x =>
      obtain ⟨tk, rfl⟩ := r
      simp only [keyVs] at h
      simp only [tupItems]
      by_cases hs : shp i = true
      · rw [if_pos hs] at h ⊢
        cases hk : keyVs (i + 1) xs with
        | none => rw [hk] at h; cases h
        | some k' => rw [hk] at h; rw [keyVs_items t hk]; exact h
      · rw [if_neg hs] at h; cases h
    | _ => simp [keyVs] at h
theorem keyDs_vs {K : PySem.W.Frag} {ρ : Rho} {H : Hp} : ∀ {l : List D} {xs : List V} {i : Nat} {k : SK}, Rps K ρ H l xs → keyDs i l = some k → keyVs i xs = some k
  | [], _, _, _, h, e => by cases h; exact e
  | d :: l, _, i, k, h, e => by
    obtain ⟨v, r, rfl, h1, h2⟩ := h
    cases d with
    | int n =>
      cases h1
      simp only [keyDs] at e
      simp only [keyVs]
      by_cases hs : shp i = true
      · rw [if_pos hs] at e; cases e
      · rw [if_neg hs] at e ⊢
        cases hk : keyDs (i + 1) l with
        | none => rw [hk] at e; cases e
        | some k' => rw [hk] at e; rw [keyDs_vs h2 hk]; exact e
    | str x =>
      cases h1
      simp only [keyDs] at e
      simp only [keyVs]
      by_cases hs : shp i = true
      · rw [if_pos hs] at e ⊢
        cases hk : keyDs (i + 1) l with
        | none => rw [hk] at e; cases e
        | some k' => rw [hk] at e; rw [keyDs_vs h2 hk]; exact e
      · rw [if_neg hs] at e; cases e
    | _ => simp [keyDs] at e
theorem keyDs_inj : ∀ {l m : List D} {i : Nat} {k : SK}, keyDs i l = some k → keyDs i m = some k → l = m
  | [], [], _, _, _, _ => rfl
  | [], e :: m, i, k, h1, h2 => by
    cases h1
    cases e <;> simp [keyDs] at h2
  | d :: l, [], i, k, h1, h2 => by
    cases h2
    cases d <;> simp [keyDs] at h1
  | d :: l, e :: m, i, k, h1, h2 => by
    have streq : ∀ {x y : Str}, x.cps = y.cps → x = y := fun {x y} h => by
      cases x; cases y
      simp only at h
      rw [h]
    cases d <;> cases e <;> simp [keyDs] at h1 h2
    · obtain ⟨q1, k1, h3, h4⟩ := h1
      obtain ⟨q2, k2, h5, h6⟩ := h2
      rw [← h4] at h6
      simp at h6
      rw [h6.2] at h5
      rw [h6.1, keyDs_inj h3 h5]
    · exact absurd h2.1 (by simp [h1.1])
    · exact absurd h1.1 (by simp [h2.1])
    · obtain ⟨q1, k1, h3, h4⟩ := h1
      obtain ⟨q2, k2, h5, h6⟩ := h2
      rw [← h4] at h6
      simp at h6
      rw [h6.2] at h5
      rw [keyDs_inj h3 h5]
      congr 2
      exact streq h6.1.symm
theorem tkD_inj {d e : D} {k : SK} (h1 : tkD d = some k) (h2 : tkD e = some k) : d = e := by
  unfold tkD at h1 h2
  split at h1
  · split at h2
    · rw [keyDs_inj h1 h2]
    · cases h2
  · cases h1
/-- not later than -/
def leD0 (d e : D) : Prop := ∀ a b, tkD d = some a → tkD e = some b → PyProof.Rows.lexLt itemOrd b a = false
theorem leD0_antisymm {d e : D} (h1 : leD0 d e) (h2 : leD0 e d) (hd : (tkD d).isSome = true) (he : (tkD e).isSome = true) : d = e := by
  cases ha : tkD d with
  | none => rw [ha] at hd; cases hd
  | some a =>
    cases hb : tkD e with
    | none => rw [hb] at he; cases he
    | some b =>
      have := PyProof.Rows.lex_total (O := itemOrd) a b (h2 b a hb ha) (h1 a b ha hb)
      subst this
      exact tkD_inj ha hb
open Classical in
noncomputable def srtD (l : List D) : List D := if h : ∃ l' : List D, l'.Perm l ∧ l'.Pairwise leD0 then choose h else l
theorem srtD_eq {l l' : List D} (hk : ∀ d ∈ l, (tkD d).isSome = true) (hp : l'.Perm l) (hs : l'.Pairwise leD0) : l' = srtD l := by
  have h : ∃ l' : List D, l'.Perm l ∧ l'.Pairwise leD0 := ⟨l', hp, hs⟩
  unfold srtD
  rw [dif_pos h]
  obtain ⟨q1, q2⟩ := Classical.choose_spec h
  refine List.Perm.eq_of_pairwise (fun a b ha hb h1 h2 => leD0_antisymm h1 h2 (hk a (hp.mem_iff.mp ha)) (hk b (q1.mem_iff.mp hb))) hs q2 (hp.trans q1.symm)
theorem srtD_perm {l : List D} : (srtD l).Perm l := by
  unfold srtD
  split
  · rename_i h; exact (Classical.choose_spec h).1
  · exact .rfl
noncomputable def sortTD : GL := fun S ds => match ds with
  | [d] => match lstD S d with
    | some l => if l.all (fun d => (tkD d).isSome) = true then some (.lst (srtD l)) else none
    | none => none
  | _ => none
theorem rps_perm {K : PySem.W.Frag} {ρ : Rho} {H : Hp} {ys xs : List V} (h : ys.Perm xs) : ∀ l : List D, Rps K ρ H l xs → ∃ l' : List D, l'.Perm l ∧ Rps K ρ H l' ys := by
  induction h with
  | nil => exact fun l h => ⟨l, .rfl, h⟩
  | cons a _ ih =>
    intro l h
    cases l with
    | nil => cases h
    | cons d l =>
      obtain ⟨v, r, e, h1, h2⟩ := h
      cases e
      obtain ⟨l', p, q⟩ := ih l h2
      exact ⟨d :: l', p.cons d, _, _, rfl, h1, q⟩
  | swap a b t =>
    intro l h
    cases l with
    | nil => cases h
    | cons d l =>
      obtain ⟨v, r, e, h1, h2⟩ := h
      cases e
      cases l with
      | nil => cases h2
      | cons d2 l =>
        obtain ⟨v, r, e, h3, h4⟩ := h2
        cases e
        exact ⟨d2 :: d :: l, .swap _ _ _, _, _, rfl, h3, _, _, rfl, h1, h4⟩
  | trans _ _ ih1 ih2 =>
    intro l h
    obtain ⟨l1, p1, q1⟩ := ih2 l h
    obtain ⟨l2, p2, q2⟩ := ih1 l1 q1
    exact ⟨l2, p2.trans p1, q2⟩
theorem rps_pw {K : PySem.W.Frag} {ρ : Rho} {H : Hp} {R : V → V → Prop} {R' : D → D → Prop} : ∀ {l : List D} {xs : List V}, Rps K ρ H l xs → xs.Pairwise R → (∀ d v e u, d ∈ l → e ∈ l → Rp K ρ H d v → Rp K ρ H e u → R v u → R' d e) → l.Pairwise R'
  | [], _, _, _, _ => .nil
  | d :: l, _, h, hp, k => by
    obtain ⟨v, r, rfl, h1, h2⟩ := h
    obtain ⟨p1, p2⟩ := List.pairwise_cons.mp hp
    refine List.pairwise_cons.mpr ⟨fun e he => ?_, rps_pw h2 p2 fun d v e u hd he => k d v e u (List.mem_cons_of_mem _ hd) (List.mem_cons_of_mem _ he)⟩
    obtain ⟨i, hi⟩ := List.mem_iff_getElem?.mp he
    obtain ⟨u, hu, ru⟩ := h2.get hi
    exact k d v e u List.mem_cons_self (List.mem_cons_of_mem _ he) h1 ru (p1 u (List.mem_of_getElem? hu))
theorem tkD_vs {K : PySem.W.Frag} {ρ : Rho} {H : Hp} {d : D} {v : V} {k : SK} (h : Rp K ρ H d v) (e : tkD d = some k) : ∃ t xs, v = .ref t ∧ SqT K H t xs ∧ keyVs 0 xs = some k ∧ xs ≠ [] := by
  unfold tkD at e
  split at e
  · obtain ⟨p, vs, rfl, h1, h2⟩ := h
    refine ⟨p, vs, rfl, h1.sq, keyDs_vs h2 e, fun z => ?_⟩
    subst z
    obtain ⟨_, _, e', _⟩ := h2
    cases e'
  · cases e
section
variable {X : Cx} {pins : List (Addr × Obj)} {σ : L2.St} {H : Hp} {s : Shared}
theorem tk_raw (I : Inv X pins σ H s) {t : Addr} {xs : List V} {k : SK} (h : SqT X.K H t xs) (e : keyVs 0 xs = some k) : G.tupKeyC s.heap shp (.ref t) = some k := by
  obtain ⟨its, r, ⟨o, ho, hc, n, hd⟩, hz⟩ := I.tuple h
  have h1 : G.isTupObj s.heap (.ref t) = true := by
    simp only [G.isTupObj, ho, hc]
    rfl
  unfold G.tupKeyC
  rw [if_pos h1]
  show (match s.heap.get? t with | some o => (match o.data with | .seq xs _ => tupItems shp 0 xs.toList | _ => none) | none => none) = some k
  rw [ho]
  show (match o.data with | .seq xs _ => tupItems shp 0 xs.toList | _ => none) = some k
  rw [hd]
  exact keyVs_items r e
theorem tups_of (I : Inv X pins σ H s) : ∀ {xs : List V} {us : List Value}, Vals xs us → (∀ x ∈ xs, ∃ t zs k, x = V.ref t ∧ SqT X.K H t zs ∧ keyVs 0 zs = some k ∧ zs ≠ []) → ∃ fs, TupsOf s.heap shp us fs
  | _, _, .nil, _ => ⟨[], .nil⟩
  | x :: xs, u :: us, .cons r t, h => by
    obtain ⟨fs, hf⟩ := tups_of I t fun y hy => h y (List.mem_cons_of_mem _ hy)
    obtain ⟨a, zs, k, rfl, h1, h2, h3⟩ := h x List.mem_cons_self
    cases r
    obtain ⟨its, r, ⟨o, ho, hc, n, hd⟩, hz⟩ := I.tuple h1
    cases zs with
    | nil => exact absurd rfl h3
    | cons z zs =>
      cases r with
      | cons rz rt =>
        rename_i w ws
        refine ⟨w :: fs, .cons ⟨a, o, _, n, rfl, ho, hc, hd, by simp, fun q => absurd q (by decide), fun _ => ?_⟩ hf⟩
        cases z with
        | str x =>
          obtain ⟨tk, rfl⟩ := rz
          exact ⟨x, tk, rfl⟩
        | int x => simp [keyVs, shp] at h2
        | _ => simp [keyVs] at h2
end
theorem arr_pw {κ : KeyKind} {xs : Array Keyed} (hs : SortedToK κ xs xs.size) (hd : ∀ p ∈ xs.toList, p.1 = p.2) : ((xs.map (·.2)).toList).Pairwise fun u v => ∀ a b, κ.keyOf u = some a → κ.keyOf v = some b → κ.blt b a = false := by
  rw [List.pairwise_iff_getElem]
  intro i j hi hj hij a b ha hb
  have hi' : i < xs.size := by simpa using hi
  have hj' : j < xs.size := by simpa using hj
  have q := hs i j (Nat.le_of_lt hij) hj'
  unfold KeyOrd.kle KK at q
  have e1 : xs[i]? = some xs[i] := by simp [hi']
  have e2 : xs[j]? = some xs[j] := by simp [hj']
  rw [e1, e2] at q
  simp only at q
  have d1 : xs[i].1 = xs[i].2 := hd _ (by simp)
  have d2 : xs[j].1 = xs[j].2 := hd _ (by simp)
  rw [d1, d2] at q
  have f1 : (xs.map (·.2)).toList[i] = xs[i].2 := by simp
  have f2 : (xs.map (·.2)).toList[j] = xs[j].2 := by simp
  rw [f1] at ha
  rw [f2] at hb
  rw [ha, hb] at q
  exact q
theorem zip_same {α : Type} : ∀ (l : List α) (p : α × α), p ∈ l.zip l → p.1 = p.2
  | [], p, h => by cases h
  | a :: l, p, h => by
    rcases List.mem_cons.mp h with e | e
    · rw [e]
    · exact zip_same l p e
theorem zip_snd {α : Type} : ∀ (l : List α), (l.zip l).map (·.2) = l
  | [] => rfl
  | a :: l => by
    show a :: (l.zip l).map (·.2) = a :: l
    rw [zip_snd l]
section
variable {X : Cx}
theorem cD_sortT : CallR X (.builtin "sorted") (rL X.K sortTD) := by
  intro pins s σ H xs us Q I r ⟨ρ, S, ds, z, hS, rd, e, q⟩
  unfold sortTD at e
  split at e
  · rename_i d
    cases hl : lstD S d with
    | none => rw [hl] at e; cases e
    | some l =>
      rw [hl] at e
      simp only at e
      split at e
      · rename_i hall
        cases e
        obtain ⟨v, rfl, h1⟩ := rd.dest1
        obtain ⟨p, vs, rfl, h2, h3⟩ := der_lst hS h1 hl
        have hk : ∀ d ∈ l, (tkD d).isSome = true := fun d hd => List.all_eq_true.mp hall d hd
        have hv : ∀ x ∈ vs, ∃ t zs k, x = V.ref t ∧ SqT X.K H t zs ∧ keyVs 0 zs = some k ∧ zs ≠ [] := fun x hx => by
          obtain ⟨i, hi⟩ := List.mem_iff_getElem?.mp hx
          have hil : i < l.length := by rw [h3.length]; exact (List.getElem?_eq_some_iff.mp hi).1
          obtain ⟨x', hx', rx⟩ := h3.get (List.getElem?_eq_getElem hil)
          rw [hi] at hx'; cases hx'
          have hs := hk _ (List.getElem_mem hil)
          cases hq : tkD l[i] with
          | none => rw [hq] at hs; cases hs
          | some k =>
            obtain ⟨t, zs, e1, e2, e3, e4⟩ := tkD_vs rx hq
            exact ⟨t, zs, k, e1, e2, e3, e4⟩
        obtain ⟨its, rv, hL, hz⟩ := I.list h2
        rw [Vals.ref1 r]
        obtain ⟨e1, e2⟩ := bkV_refs rv fun x m => by
          obtain ⟨t, _, _, e, _⟩ := hv x m
          exact ⟨t, e⟩
        obtain ⟨fs, hf⟩ := tups_of I rv hv
        refine G.sorted_tups (shape := shp) hL.isList hf (fun u hu => ?_) (by rw [← rv.length]; exact hz) fun st' hp hs _ => ?_
        · obtain ⟨t, rfl⟩ := e2 u hu
          have hm : V.ref t ∈ vs := by rw [e1]; exact List.mem_map.mpr ⟨_, hu, rfl⟩
          obtain ⟨t', zs, k, e, h4, h5, _⟩ := hv _ hm
          cases e
          exact ⟨k, tk_raw I h4 h5⟩
        · obtain ⟨ep, he'⟩ := PyProof.Rows.sortedAll_at s.heap its ((arrOf st').map (·.2))
          have hpl : (arrOf st').toList.Perm (its.zip its) := by
            rw [← pairsOf_toList]; exact Array.perm_iff_toList_perm.mp hp
          have hout : ((arrOf st').map (·.2)).toList.Perm its := by
            have := hpl.map (·.2)
            rw [zip_snd] at this
            simpa using this
          have h3' : ∀ u ∈ ((arrOf st').map (·.2)).toList, ∃ a, u = Value.ref a := fun u hu => e2 u (hout.mem_iff.mp hu)
          have hpv : (((arrOf st').map (·.2)).toList.map bkV).Perm vs := by rw [e1]; exact hout.map bkV
          have hsz : (arrOf st').size = (pairsOf its).size := hp.size_eq
          have pw := arr_pw (κ := G.tupKindC s.heap shp) (xs := arrOf st') (by rw [hsz]; exact hs) fun p hp' => zip_same its p (hpl.mem_iff.mp hp')
          obtain ⟨l', pl, rl⟩ := rps_perm hpv l h3
          have pwD : l'.Pairwise leD0 := by
            refine rps_pw (R := fun v u => ∀ a b, (∃ t, v = .ref t ∧ G.tupKeyC s.heap shp (.ref t) = some a) → (∃ t, u = .ref t ∧ G.tupKeyC s.heap shp (.ref t) = some b) → PyProof.Rows.lexLt itemOrd b a = false) rl ?_ fun d v e u hd he rd re hvu a b ha hb => ?_
            · rw [List.pairwise_map]
              refine List.Pairwise.imp (fun {u v} huv a b ha hb => ?_) pw
              obtain ⟨t, et, ht⟩ := ha
              obtain ⟨t', et', ht'⟩ := hb
              have eu := bkV_ref et
              have ev := bkV_ref et'
              subst eu ev
              exact huv a b ht ht'
            · obtain ⟨t, xs1, ev, h6, h7, _⟩ := tkD_vs rd ha
              obtain ⟨t', xs2, eu, h8, h9, _⟩ := tkD_vs re hb
              exact hvu a b ⟨t, ev, tk_raw I h6 h7⟩ ⟨t', eu, tk_raw I h8 h9⟩
          have el := srtD_eq hk pl pwD
          rw [el] at rl
          refine ⟨.ref _, upd H (s.heap.objs.size + 1) (.lst (((arrOf st').map (·.2)).toList.map bkV)), I.laid (t' := s.toks) (fun _ _ => PyProof.Rows.sortedAll_old) (Nat.le_succ _) ⟨by rw [hpv.length_eq]; exact hz, ((arrOf st').map (·.2)).toList, ep, bkV_vals h3', by rw [Array.toArray_toList]; exact he'⟩, rfl, new_lst hS rl (I.hok.fresh (Nat.le_succ _)) q⟩
      · cases e
  · cases e
end
end Mi

namespace Mi
open PySem PySem.Spec PyProof.Rows L2
/-! ### sizes, by instances -/
class Bd (i : Int) (n : outParam Nat) : Prop where
  h : Sm n i
instance bd_mul (i j : Int) (n m : Nat) [a : Bd i n] [b : Bd j m] : Bd (i * j) (n + m) := ⟨a.h.mul b.h⟩
instance bd_add (i j : Int) (n m : Nat) [a : Bd i n] [b : Bd j m] : Bd (i + j) (n + m + 1) := ⟨a.h.add b.h⟩
instance bd_sub (i j : Int) (n m : Nat) [a : Bd i n] [b : Bd j m] : Bd (i - j) (n + m + 1) := ⟨a.h.sub b.h⟩
instance bd_neg (i : Int) (n : Nat) [a : Bd i n] : Bd (-i) n := ⟨a.h.neg⟩
theorem Bd.up {i : Int} {n m : Nat} (a : Bd i n) (h : n ≤ m) : Bd i m := ⟨a.h.le h⟩
instance bd_ite (c : Prop) [Decidable c] (i j : Int) (n m : Nat) [a : Bd i n] [b : Bd j m] : Bd (if c then i else j) (n + m) := ⟨by
  split
  · exact a.h.le (by omega)
  · exact b.h.le (by omega)⟩
theorem bd_lt {i : Int} {n : Nat} (a : -(2 ^ n : Int) < i) (b : i < (2 ^ n : Int)) : Bd i n := ⟨by
  unfold Sm
  have : ((2 ^ n : Nat) : Int) = (2 : Int) ^ n := by simp
  omega⟩
theorem Bd.lo {i : Int} {n : Nat} (a : Bd i n) : -(2 ^ n : Int) < i := by
  have h := a.h
  unfold Sm at h
  have : ((2 ^ n : Nat) : Int) = (2 : Int) ^ n := by simp
  omega
theorem Bd.hi {i : Int} {n : Nat} (a : Bd i n) : i < (2 ^ n : Int) := by
  have h := a.h
  unfold Sm at h
  have : ((2 ^ n : Nat) : Int) = (2 : Int) ^ n := by simp
  omega
instance : Bd 0 64 := ⟨by unfold Sm; decide⟩
instance : Bd 1 64 := ⟨by unfold Sm; decide⟩
instance : Bd 2 64 := ⟨by unfold Sm; decide⟩
instance : Bd 3 64 := ⟨by unfold Sm; decide⟩
instance : Bd 10 64 := ⟨by unfold Sm; decide⟩
/-! ### operators at whole numbers -/
@[simp] theorem mulD_int {S : Sto} {i j : Int} {n m : Nat} [a : Bd i n] [b : Bd j m] (h1 : n ≤ 60000) (h2 : m ≤ 60000) : mulD S (.int i) (.int j) = some (.int (i * j)) := by
  unfold mulD
  exact if_pos ⟨a.h.le h1, b.h.le h2⟩
@[simp] theorem addD_int {S : Sto} {i j : Int} : addD S (.int i) (.int j) = some (.int (i + j)) := rfl
@[simp] theorem subD_int {S : Sto} {i j : Int} : subD S (.int i) (.int j) = some (.int (i - j)) := rfl
@[simp] theorem subD_bl {S : Sto} {i j : Bool} : subD S (.bl i) (.bl j) = some (.int (b2i i - b2i j)) := rfl
@[simp] theorem negD_int {S : Sto} {i : Int} : negD S (.int i) = some (.int (-i)) := rfl
theorem fdivD_int {S : Sto} {i j : Int} {m : Nat} [b : Bd j m] (h : m ≤ 8000) (hj : j ≠ 0) : fdivD S (.int i) (.int j) = some (.int (i.fdiv j)) := by
  unfold fdivD
  exact if_pos ⟨hj, b.h.le h⟩
theorem modD_int {S : Sto} {i j : Int} (hj : j ≠ 0) : modD S (.int i) (.int j) = some (.int (i.fmod j)) := by
  unfold modD
  exact if_pos hj
@[simp] theorem cmpD_int {f : Int → Int → Bool} {S : Sto} {i j : Int} : cmpD f S (.int i) (.int j) = some (.bl (f i j)) := rfl
@[simp] theorem powD_2 {S : Sto} {i : Int} {n : Nat} [a : Bd i n] (h : n ≤ 60000) : powD S (.int i) (.int 2) = some (.int (i * i)) := by
  unfold powD
  rw [show (i * i : Int) = i ^ (2 : Int).toNat by show i * i = i ^ 2; rw [Int.pow_succ, Int.pow_succ, Int.pow_zero, Int.one_mul]]
  exact if_pos ⟨by decide, by decide, a.h.le h⟩
@[simp] theorem powD_lit {S : Sto} {i j : Int} {n : Nat} [a : Bd i n] (h : n ≤ 60000) (h0 : 0 ≤ j) (h1 : j ≤ 100) : powD S (.int i) (.int j) = some (.int (i ^ j.toNat)) := if_pos ⟨h0, h1, a.h.le h⟩
theorem powD_c {S : Sto} {i j : Int} (h : 0 ≤ j ∧ j ≤ 100 ∧ Sm 60000 i) : powD S (.int i) (.int j) = some (.int (i ^ j.toNat)) := if_pos h
theorem shlD_c {S : Sto} {i j : Int} {n : Nat} [a : Bd i n] (h0 : 0 ≤ j) (h1 : j ≤ 10000) (h : n ≤ 60000) : shlD S (.int i) (.int j) = some (.int (i * 2 ^ j.toNat)) := if_pos ⟨h0, h1, a.h.le h⟩
@[simp] theorem mulD_tup {S : Sto} {l : List D} {j : Int} (h0 : l ≠ []) (h1 : 2 ≤ j) (h2 : j ≤ 1000) (h3 : l.length ≤ 1000) : mulD S (.tup l) (.int j) = some (.tup (List.replicate j.toNat l).flatten) := if_pos ⟨h0, h1, h2, h3⟩
@[simp] theorem addD_tup {S : Sto} {l m : List D} (h : l.length + m.length ≤ 16777216) : addD S (.tup l) (.tup m) = some (.tup (l ++ m)) := if_pos h
@[simp] theorem addD_lst {S : Sto} {l m : List D} (h : l.length + m.length ≤ 16777216) : addD S (.lst l) (.lst m) = some (.lst (l ++ m)) := if_pos h
@[simp] theorem isD_non {S : Sto} {a : D} : isD S a .non = some (.bl a.isNon) := rfl
@[simp] theorem isD_bl {S : Sto} {a : D} {c : Bool} : isD S a (.bl c) = some (.bl (a.isBl c)) := rfl
@[simp] theorem isnD_non {S : Sto} {a : D} : isnD S a .non = some (.bl !a.isNon) := rfl
def one1 : List D → Option Int
  | [.int j] => some j
  | _ => none
@[simp] theorem one1_int {j : Int} : one1 [.int j] = some j := rfl
def blD : D → Option Bool
  | .bl b => some b
  | _ => none
@[simp] theorem blD_bl {b : Bool} : blD (.bl b) = some b := rfl
/-! ### what a reading gives: one of these -/
def Ens {α : Type} (r : R α) (P : α → Sto → Prop) : Prop := match r with
  | .ok a S => P a S
  | _ => False
section
variable {α β : Type} {P : α → Sto → Prop} {Q : β → Sto → Prop} {Pd : D → Sto → Prop} {Pb : Bool → Sto → Prop} {Pl : List D → Sto → Prop} {env : En} {S : Sto}
@[simp] theorem Ens_ok {a : α} : Ens (R.ok a S) P ↔ P a S := Iff.rfl
@[simp] theorem Ens_bad : Ens (R.bad : R α) P ↔ False := Iff.rfl
@[simp] theorem Ens_bind {r : R α} {f : α → Sto → R β} : Ens (r.bind f) Q ↔ Ens r fun a S => Ens (f a S) Q := by cases r <;> exact Iff.rfl
@[simp] theorem Ens_ite {c : Prop} [Decidable c] {x y : R α} : Ens (if c then x else y) P ↔ (c → Ens x P) ∧ (¬ c → Ens y P) := by
  by_cases h : c
  · simp [h]
  · simp [h]
theorem Ens.mono {r : R α} {P' : α → Sto → Prop} (h : Ens r P) (k : ∀ a S, P a S → P' a S) : Ens r P' := by
  cases r with
  | ok a S => exact k a S h
  | exc C fs S => exact h
  | bad => exact h
theorem Ens.eq {r : R α} (h : Ens r P) : ∃ a S, r = .ok a S ∧ P a S := by
  cases r with
  | ok a S => exact ⟨a, S, rfl, h⟩
  | exc C fs S => exact h.elim
  | bad => exact h.elim
theorem Ens_is {r : R α} {a : α} (e : r = .ok a S) : Ens r P ↔ P a S := by rw [e]; exact Iff.rfl
theorem ens_eq {r : R α} {a : α} (h : Ens r fun b T => b = a ∧ T = S) : r = .ok a S := by
  cases r with
  | ok b T => obtain ⟨rfl, rfl⟩ := h; rfl
  | exc C fs S => exact h.elim
  | bad => exact h.elim
@[simp] theorem mVar_zero {d : D} {e : En} : mVar 0 (some d :: e) S = .ok d S := rfl
@[simp] theorem mVar_succ {n : Nat} {d : Option D} {e : En} : mVar (n + 1) (d :: e) S = mVar n e S := rfl
@[simp] theorem mC_ok {d : D} : mC d env S = .ok d S := rfl
@[simp] theorem Ens_mOp {g : G2} {ma mb : TM} : Ens (mOp g ma mb env S) Pd ↔ Ens (ma env S) fun a S1 => Ens (mb env S1) fun b S2 => Ens (R.of (g S2 a b) S2) Pd := by unfold mOp; simp
@[simp] theorem Ens_mUn {g : G1} {ma : TM} : Ens (mUn g ma env S) Pd ↔ Ens (ma env S) fun a S1 => Ens (R.of (g S1 a) S1) Pd := by unfold mUn; simp
@[simp] theorem Ens_mTup {n : AM} : Ens (mTup n env S) Pd ↔ Ens (n env S) fun l S1 => l.length ≤ 16777216 ∧ Pd (.tup l) S1 := by
  unfold mTup
  simp only [Ens_bind, Ens_ite, Ens_ok, Ens_bad]
  constructor
  · intro h
    refine h.mono fun a S h => ?_
    by_cases hl : a.length ≤ 16777216
    · exact ⟨hl, h.1 hl⟩
    · exact (h.2 hl).elim
  · exact fun h => h.mono fun a S h => ⟨fun _ => h.2, fun z => z h.1⟩
@[simp] theorem Ens_mLst {n : AM} : Ens (mLst n env S) Pd ↔ Ens (n env S) fun l S1 => l.length ≤ 16777216 ∧ Pd (.lst l) S1 := by
  unfold mLst
  simp only [Ens_bind, Ens_ite, Ens_ok, Ens_bad]
  constructor
  · intro h
    refine h.mono fun a S h => ?_
    by_cases hl : a.length ≤ 16777216
    · exact ⟨hl, h.1 hl⟩
    · exact (h.2 hl).elim
  · exact fun h => h.mono fun a S h => ⟨fun _ => h.2, fun z => z h.1⟩
@[simp] theorem Ens_new {o : O} : Ens (R.new o S) Pd ↔ Pd (.loc S.length) (S ++ [o]) := Iff.rfl
@[simp] theorem Ens_mNew {n : AM} : Ens (mNew n env S) Pd ↔ Ens (n env S) fun l S1 => l.length ≤ 16777216 ∧ Pd (.loc S1.length) (S1 ++ [.lst l]) := by
  unfold mNew
  simp only [Ens_bind, Ens_ite, Ens_new, Ens_bad]
  constructor
  · intro h
    refine h.mono fun a S h => ?_
    by_cases hl : a.length ≤ 16777216
    · exact ⟨hl, h.1 hl⟩
    · exact (h.2 hl).elim
  · exact fun h => h.mono fun a S h => ⟨fun _ => h.2, fun z => z h.1⟩
@[simp] theorem Ens_aNil : Ens (aNil env S) Pl ↔ Pl [] S := Iff.rfl
@[simp] theorem Ens_aCons {m : TM} {n : AM} : Ens (aCons m n env S) Pl ↔ Ens (m env S) fun a S1 => Ens (n env S1) fun l S2 => Pl (a :: l) S2 := by unfold aCons; simp
@[simp] theorem Ens_mCall {np : Nat} {m : FM} {n : AM} : Ens (mCall np m n env S) Pd ↔ Ens (n env S) fun ds S1 => if ds.length = np then Ens (m ds S1) Pd else False := by
  unfold mCall
  simp only [Ens_bind]
  constructor <;> exact fun h => h.mono fun a S h => by
    by_cases q : a.length = np
    · rw [if_pos q] at *; exact h
    · rw [if_neg q] at *; exact h
@[simp] theorem Ens_mCallK {np n1 n2 : Nat} {idx : List Nat} {m : FM} {n nk : AM} : Ens (mCallK np n1 n2 idx m n nk env S) Pd ↔ Ens (n env S) fun ds S1 => Ens (nk env S1) fun es S2 => if ds.length = n1 ∧ es.length = n2 then Ens (m (gPerm idx ds es) S2) Pd else False := by
  unfold mCallK
  simp only [Ens_bind]
  constructor <;> exact fun h => h.mono fun a S h => h.mono fun b S h => by
    by_cases q : a.length = n1 ∧ b.length = n2
    · rw [if_pos q] at *; exact h
    · rw [if_neg q] at *; exact h
@[simp] theorem gPerm_nil {α : Type} {us ws : List α} : gPerm [] us ws = [] := rfl
@[simp] theorem gPerm_cons {α : Type} {i : Nat} {idx : List Nat} {us ws : List α} : gPerm (i :: idx) us ws = ((us ++ ws)[i]?).toList ++ gPerm idx us ws := by
  unfold gPerm
  rw [List.filterMap_cons]
  cases (us ++ ws)[i]? <;> rfl
@[simp] theorem Ens_mB {g : GL} {n : AM} : Ens (mB g n env S) Pd ↔ Ens (n env S) fun ds S1 => Ens (R.of (g S1 ds) S1) Pd := by unfold mB; simp
@[simp] theorem Ens_oNone {Po : Option Int → Sto → Prop} : Ens (oNone env S) Po ↔ Po none S := Iff.rfl
@[simp] theorem Ens_oSome {m : TM} {Po : Option Int → Sto → Prop} : Ens (oSome m env S) Po ↔ Ens (m env S) fun a S1 => Ens (R.of (intD a) S1) fun i S2 => Po (some i) S2 := by
  unfold oSome
  simp only [Ens_bind]
  constructor <;> exact fun h => h.mono fun a S h => by cases a <;> exact h
@[simp] theorem intD_int {i : Int} : intD (.int i) = some i := rfl
@[simp] theorem Ens_mSl {m : TM} {lo hi : En → Sto → R (Option Int)} : Ens (mSl m lo hi env S) Pd ↔ Ens (m env S) fun a S1 => Ens (lo env S1) fun l S2 => Ens (hi env S2) fun u S3 => Ens (R.of (slD S3 a l u) S3) Pd := by unfold mSl; simp
@[simp] theorem Ens_mRev {m : TM} : Ens (mRev m env S) Pd ↔ Ens (m env S) fun d S1 => Ens (R.of (revD S1 d) S1) fun l S2 => Pd (.lst l) S2 := by
  unfold mRev
  simp only [Ens_bind]
  constructor <;> exact fun h => h.mono fun a S h => by
    revert h
    cases revD S a <;> exact id
@[simp] theorem Ens_mRevN {m : TM} : Ens (mRevN m env S) Pd ↔ Ens (m env S) fun d S1 => Ens (R.of (revD S1 d) S1) fun l S2 => Pd (.loc S2.length) (S2 ++ [.lst l]) := by
  unfold mRevN
  simp only [Ens_bind]
  constructor <;> exact fun h => h.mono fun a S h => by
    revert h
    cases revD S a <;> exact id
@[simp] theorem Ens_mChain {g g' : G2} {ma mb mc : TM} : Ens (mChain g g' ma mb mc env S) Pd ↔ Ens (ma env S) fun a S1 => Ens (mb env S1) fun b S2 => Ens (R.of ((g S2 a b).bind blD) S2) fun t S3 => (t = true → Ens (mc env S3) fun c S4 => Ens (R.of (g' S4 b c) S4) Pd) ∧ (t = false → Pd (.bl false) S3) := by
  unfold mChain
  simp only [Ens_bind]
  constructor <;> exact fun h => h.mono fun a S h => h.mono fun b S h => by
    revert h
    cases g S a b with
    | none => exact id
    | some d =>
      cases d with
      | bl b =>
        intro h
        cases b <;> simpa [blD] using h
      | _ => exact id
/-! tests -/
@[simp] theorem Ens_bVal {m : TM} : Ens (bVal m env S) Pb ↔ Ens (m env S) fun a S1 => Ens (R.of (blD a) S1) Pb := by
  unfold bVal
  simp only [Ens_bind]
  constructor <;> exact fun h => h.mono fun a S h => by cases a <;> exact h
@[simp] theorem Ens_bAnd {m n : BM} : Ens (bAnd m n env S) Pb ↔ Ens (m env S) fun a S1 => (a = true → Ens (n env S1) Pb) ∧ (a = false → Pb false S1) := by
  unfold bAnd
  simp
@[simp] theorem Ens_bOr {m n : BM} : Ens (bOr m n env S) Pb ↔ Ens (m env S) fun a S1 => (a = true → Pb true S1) ∧ (a = false → Ens (n env S1) Pb) := by
  unfold bOr
  simp
@[simp] theorem Ens_bNot {m : BM} : Ens (bNot m env S) Pb ↔ Ens (m env S) fun a S1 => Pb (!a) S1 := by
  unfold bNot
  simp
@[simp] theorem Ens_bYes : Ens (bYes env S) Pb ↔ Pb true S := Iff.rfl
@[simp] theorem Ens_mIf {t : BM} {m n : TM} : Ens (mIf t m n env S) Pd ↔ Ens (t env S) fun a S1 => (a = true → Ens (m env S1) Pd) ∧ (a = false → Ens (n env S1) Pd) := by
  unfold mIf
  simp
@[simp] theorem Ens_mNot {m : TM} : Ens (mNot m env S) Pd ↔ Ens (m env S) fun a S1 => Ens (R.of (blD a) S1) fun b S2 => Pd (.bl !b) S2 := by
  unfold mNot
  simp only [Ens_bind]
  constructor <;> exact fun h => h.mono fun a S h => by cases a <;> exact h
@[simp] theorem Ens_mAnd {m n : TM} : Ens (mAnd m n env S) Pd ↔ Ens (m env S) fun a S1 => Ens (R.of (blD a) S1) fun b S2 => (b = true → Ens (n env S2) Pd) ∧ (b = false → Pd (.bl false) S2) := by
  unfold mAnd
  simp only [Ens_bind]
  constructor <;> exact fun h => h.mono fun a S h => by
    cases a with
    | bl b => cases b <;> simpa [blD] using h
    | _ => exact h
@[simp] theorem Ens_mOr {m n : TM} : Ens (mOr m n env S) Pd ↔ Ens (m env S) fun a S1 => Ens (R.of (blD a) S1) fun b S2 => (b = true → Pd (.bl true) S2) ∧ (b = false → Ens (n env S2) Pd) := by
  unfold mOr
  simp only [Ens_bind]
  constructor <;> exact fun h => h.mono fun a S h => by
    cases a with
    | bl b => cases b <;> simpa [blD] using h
    | _ => exact h
end
/-! ### statements -/
def EnsS (r : RS) (P : RS → Prop) : Prop := match r with
  | .exc _ _ _ _ => False
  | .bad => False
  | r => P r
section
variable {α : Type} {P : RS → Prop} {env : En} {S : Sto}
@[simp] theorem EnsS_nx : EnsS (.nx env S) P ↔ P (.nx env S) := Iff.rfl
@[simp] theorem EnsS_rt {d : D} : EnsS (.rt d S) P ↔ P (.rt d S) := Iff.rfl
@[simp] theorem EnsS_bk : EnsS (.bk env S) P ↔ P (.bk env S) := Iff.rfl
@[simp] theorem EnsS_ct : EnsS (.ct env S) P ↔ P (.ct env S) := Iff.rfl
@[simp] theorem EnsS_bad : EnsS .bad P ↔ False := Iff.rfl
@[simp] theorem EnsS_ite {c : Prop} [Decidable c] {x y : RS} : EnsS (if c then x else y) P ↔ (c → EnsS x P) ∧ (¬ c → EnsS y P) := by
  by_cases h : c
  · simp [h]
  · simp [h]
theorem EnsS.mono {r : RS} {P' : RS → Prop} (h : EnsS r P) (k : ∀ r, P r → P' r) : EnsS r P' := by
  cases r with
  | nx env S => exact k _ h
  | rt d S => exact k _ h
  | bk env S => exact k _ h
  | ct env S => exact k _ h
  | exc C fs env S => exact h
  | bad => exact h
@[simp] theorem EnsS_of {r : R α} {f : α → Sto → RS} : EnsS (RS.of r env f) P ↔ Ens r fun a S => EnsS (f a S) P := by cases r <;> exact Iff.rfl
def RS.then (P : RS → Prop) (n : SM) (r : RS) : Prop := match r with
  | .nx env S => EnsS (n env S) P
  | r => P r
@[simp] theorem then_nx {n : SM} : RS.then P n (.nx env S) ↔ EnsS (n env S) P := Iff.rfl
@[simp] theorem then_rt {n : SM} {d : D} : RS.then P n (.rt d S) ↔ P (.rt d S) := Iff.rfl
@[simp] theorem then_bk {n : SM} : RS.then P n (.bk env S) ↔ P (.bk env S) := Iff.rfl
@[simp] theorem then_ct {n : SM} : RS.then P n (.ct env S) ↔ P (.ct env S) := Iff.rfl
@[simp] theorem EnsS_sSeq {m n : SM} : EnsS (sSeq m n env S) P ↔ EnsS (m env S) (RS.then P n) := by
  unfold sSeq
  cases m env S <;> exact Iff.rfl
@[simp] theorem EnsS_sNil : EnsS (sNil env S) P ↔ P (.nx env S) := Iff.rfl
@[simp] theorem EnsS_sBk : EnsS (sBk env S) P ↔ P (.bk env S) := Iff.rfl
@[simp] theorem EnsS_sCt : EnsS (sCt env S) P ↔ P (.ct env S) := Iff.rfl
@[simp] theorem EnsS_sRetN : EnsS (sRetN env S) P ↔ P (.rt .non S) := Iff.rfl
@[simp] theorem EnsS_sBad : EnsS (sBad env S) P ↔ False := Iff.rfl
@[simp] theorem EnsS_sRet {m : TM} : EnsS (sRet m env S) P ↔ Ens (m env S) fun d S1 => P (.rt d S1) := by unfold sRet; simp
@[simp] theorem EnsS_sDrop {m : TM} : EnsS (sDrop m env S) P ↔ Ens (m env S) fun d S1 => P (.nx env S1) := by unfold sDrop; simp
@[simp] theorem EnsS_sIf {t : BM} {m n : SM} : EnsS (sIf t m n env S) P ↔ Ens (t env S) fun a S1 => (a = true → EnsS (m env S1) P) ∧ (a = false → EnsS (n env S1) P) := by unfold sIf; simp
/-- a target that takes what it is given -/
@[simp] theorem EnsS_sAsg {m : TM} {g : GM} : EnsS (sAsg m g env S) P ↔ Ens (m env S) fun d S1 => Ens (g d env S1) fun env' S' => P (.nx env' S') := by
  unfold sAsg
  simp only [EnsS_of]
  constructor <;> exact fun h => h.mono fun a S h => by
    revert h
    cases g a env S <;> exact id
@[simp] theorem EnsS_sPar {is : List Nat} {n : AM} : EnsS (sPar is n env S) P ↔ Ens (n env S) fun l S1 => if l.length = is.length then P (.nx ((is.zip l).foldl (fun en p => en.set p.1 (some p.2)) env) S1) else False := by
  unfold sPar
  simp only [EnsS_of]
  constructor <;> exact fun h => h.mono fun a S h => by
    by_cases q : a.length = is.length
    · rw [if_pos q] at *; exact h
    · rw [if_neg q] at *; exact h
def endP (P : D → Sto → Prop) (r : RS) : Prop := match r with
  | .nx _ S => P .non S
  | .rt d S => P d S
  | _ => False
section
variable {Pd : D → Sto → Prop}
@[simp] theorem endP_nx : endP Pd (.nx env S) ↔ Pd .non S := Iff.rfl
@[simp] theorem endP_rt {d : D} : endP Pd (.rt d S) ↔ Pd d S := Iff.rfl
@[simp] theorem endP_bk : endP Pd (.bk env S) ↔ False := Iff.rfl
@[simp] theorem endP_ct : endP Pd (.ct env S) ↔ False := Iff.rfl
@[simp] theorem Ens_fnP {n : Nat} {b : SM} {ds : List D} : Ens (fnP n b ds S) Pd ↔ EnsS (b (startE n ds) S) (endP Pd) := by
  unfold fnP
  cases b (startE n ds) S <;> exact Iff.rfl
end
variable {Pe : En → Sto → Prop} {d : D}
@[simp] theorem gN_ok {i : Nat} : gN i d env S = .ok (env.set i (some d)) S := rfl
@[simp] theorem Ens_gT {gs : List GM} : Ens (gT gs d env S) Pe ↔ Ens (R.of (seqD S d) S) fun l S1 => Ens (gT.go gs l env S1) Pe := by
  unfold gT
  cases seqD S d <;> exact Iff.rfl
@[simp] theorem go_nil : gT.go [] [] env S = .ok env S := rfl
@[simp] theorem Ens_go {g : GM} {gs : List GM} {ds : List D} : Ens (gT.go (g :: gs) (d :: ds) env S) Pe ↔ Ens (g d env S) fun env1 S1 => Ens (gT.go gs ds env1 S1) Pe := by
  show Ens ((g d env S).bind fun env1 S1 => gT.go gs ds env1 S1) Pe ↔ _
  simp
@[simp] theorem Ens_gSet {mo mi : TM} : Ens (gSet mo mi d env S) Pe ↔ Ens (mo env S) fun o S1 => Ens (mi env S1) fun i S2 => Ens (R.of (setD S2 o i d) S2) fun S3 _ => Pe env S3 := by
  unfold gSet
  simp only [Ens_bind]
  constructor <;> exact fun h => h.mono fun a S h => h.mono fun b S h => by
    revert h
    cases setD S a b d <;> exact id
/-! methods -/
@[simp] theorem Ens_mM {T : String} {g : GMt} {m : TM} {n : AM} {Pd : D → Sto → Prop} : Ens (mM T g m n env S) Pd ↔ Ens (m env S) fun o S1 => isT S1 T o = true ∧ Ens (n env S1) fun ds S2 => Ens (R.of (g S2 o ds) S2) fun z _ => Pd z.1 z.2 := by
  unfold mM
  simp only [Ens_bind]
  constructor
  · intro h
    refine h.mono fun a S h => ?_
    by_cases q : isT S T a = true
    · rw [if_pos q] at h
      simp only [Ens_bind] at h
      refine ⟨q, h.mono fun b S h => ?_⟩
      revert h
      cases g S a b <;> exact id
    · rw [if_neg q] at h; exact h.elim
  · intro h
    refine h.mono fun a S h => ?_
    rw [if_pos h.1]
    simp only [Ens_bind]
    refine h.2.mono fun b S h => ?_
    revert h
    cases g S a b <;> exact id
/-! loops -/
def loopP (P : RS → Prop) (k : En → Sto → Prop) (r : RS) : Prop := match r with
  | .nx env S => k env S
  | .ct env S => k env S
  | .bk env S => P (.nx env S)
  | r => P r
@[simp] theorem loopP_nx {k : En → Sto → Prop} : loopP P k (.nx env S) ↔ k env S := Iff.rfl
@[simp] theorem loopP_ct {k : En → Sto → Prop} : loopP P k (.ct env S) ↔ k env S := Iff.rfl
@[simp] theorem loopP_bk {k : En → Sto → Prop} : loopP P k (.bk env S) ↔ P (.nx env S) := Iff.rfl
@[simp] theorem loopP_rt {k : En → Sto → Prop} : loopP P k (.rt d S) ↔ P (.rt d S) := Iff.rfl
theorem EnsS_for_nil {g : GM} {body : SM} {gd : Sto → Prop} : EnsS (forD g body gd [] env S) P ↔ gd S ∧ P (.nx env S) := by
  unfold forD
  by_cases h : gd S <;> simp [h]
theorem EnsS_for_cons {g : GM} {body : SM} {gd : Sto → Prop} {ds : List D} : EnsS (forD g body gd (d :: ds) env S) P ↔ gd S ∧ Ens (g d env S) fun env1 S1 => EnsS (body env1 S1) (loopP P fun env2 S2 => EnsS (forD g body gd ds env2 S2) P) := by
  rw [forD]
  by_cases h : gd S
  · simp only [h, if_true, true_and]
    cases g d env S with
    | ok env1 S1 =>
      simp only [Ens_ok]
      cases body env1 S1 <;> exact Iff.rfl
    | exc C fs S1 => exact Iff.rfl
    | bad => exact Iff.rfl
  · simp [h]
@[simp] theorem EnsS_sFor {i : IM} {g : GM} {body : SM} : EnsS (sFor i g body env S) P ↔ Ens (i env S) fun p S1 => EnsS (forD g body p.2 p.1 env S1) P := by unfold sFor; simp
/-- a loop with an invariant -/
theorem for_inv {g : GM} {body : SM} {gd : Sto → Prop} (Inv : Nat → En → Sto → Prop) : ∀ (ds : List D) (k : Nat) (env : En) (S : Sto), Inv k env S →
    (∀ i env S, k ≤ i → i ≤ k + ds.length → Inv i env S → gd S) →
    (∀ i d env S, k ≤ i → ds[i - k]? = some d → Inv i env S → Ens (g d env S) fun env1 S1 => EnsS (body env1 S1) (loopP P (Inv (i + 1)))) →
    (∀ env S, Inv (k + ds.length) env S → P (.nx env S)) → EnsS (forD g body gd ds env S) P
  | [], k, env, S, h0, hg, hs, he => EnsS_for_nil.mpr ⟨hg k env S (Nat.le_refl _) (by simp) h0, he env S h0⟩
  | d :: ds, k, env, S, h0, hg, hs, he => EnsS_for_cons.mpr ⟨hg k env S (Nat.le_refl _) (by simp) h0, (hs k d env S (Nat.le_refl _) (by simp) h0).mono fun env1 S1 h1 => h1.mono fun r h2 => by
      have key : ∀ env2 S2, Inv (k + 1) env2 S2 → EnsS (forD g body gd ds env2 S2) P := fun env2 S2 h3 =>
        for_inv Inv ds (k + 1) env2 S2 h3 (fun i env S h4 h5 h6 => hg i env S (by omega) (by simp; omega) h6)
          (fun i e env S h4 h5 h6 => hs i e env S (by omega) (by
            have : i - k = (i - (k + 1)) + 1 := by omega
            rw [this, List.getElem?_cons_succ]; exact h5) h6) (fun env S h4 => he env S (by
            have : k + (d :: ds).length = k + 1 + ds.length := by simp; omega
            rw [this]; exact h4))
      cases r with
      | nx env2 S2 => exact key env2 S2 h2
      | ct env2 S2 => exact key env2 S2 h2
      | bk env2 S2 => exact h2
      | rt d2 S2 => exact h2
      | exc C fs env2 S2 => exact h2
      | bad => exact h2⟩
/-! while -/
theorem EnsS_while {c : BM} {body : SM} : EnsS (sWhile c body env S) P ↔ Ens (c env S) fun b S1 => (b = true → EnsS (body env S1) (loopP P fun env2 S2 => EnsS (sWhile c body env2 S2) P)) ∧ (b = false → P (.nx env S1)) := by
  rw [sWhile_unfold]
  simp only [EnsS_of]
  constructor <;> exact fun h => h.mono fun a S h => by
    cases a with
    | false => simpa using h
    | true =>
      simp only [if_true] at h ⊢
      first
        | refine ⟨fun _ => ?_, fun z => by cases z⟩
          revert h
          cases body env S <;> exact id
        | have h := h.1 trivial
          revert h
          cases body env S <;> exact id
/-! comprehensions -/
variable {Pl : List D → Sto → Prop} {Pd : D → Sto → Prop} {g : GM} {tt : BM} {te : TM} {gd : Sto → Prop} {acc : List D} {ds : List D}
theorem Ens_lc_nil : Ens (lcD g tt te gd env [] S acc) Pl ↔ gd S ∧ Pl acc S := by
  rw [lcD]
  by_cases h : gd S <;> simp [h]
theorem Ens_lc_cons : Ens (lcD g tt te gd env (d :: ds) S acc) Pl ↔ gd S ∧ Ens (g d env S) fun env1 S1 => Ens (tt env1 S1) fun b S2 =>
    (b = true → Ens (te env1 S2) fun y S3 => acc.length < 16777216 ∧ Ens (lcD g tt te gd env ds S3 (acc ++ [y])) Pl) ∧ (b = false → Ens (lcD g tt te gd env ds S2 acc) Pl) := by
  rw [lcD]
  by_cases h : gd S
  · simp only [h, if_true, true_and]
    cases g d env S with
    | bad => exact Iff.rfl
    | exc C fs S1 => exact Iff.rfl
    | ok env1 S1 =>
      simp only [Ens_ok]
      cases tt env1 S1 with
      | bad => exact Iff.rfl
      | exc C fs S1 => exact Iff.rfl
      | ok b S2 =>
        simp only [Ens_ok]
        cases b with
        | false => simp
        | true =>
          simp only [if_true]
          cases te env1 S2 with
          | bad => simp
          | exc C fs S1 => simp [Ens]
          | ok y S3 =>
            simp only [Ens_ok, Ens_ite, Ens_bad]
            by_cases q : acc.length < 16777216 <;> simp [q]
  · simp [h]
@[simp] theorem Ens_mLc {i : IM} {vs : List Nat} : Ens (mLc i g tt te vs env S) Pd ↔ Ens (i env S) fun p S1 => Ens (lcD g tt te p.2 (wipeE env vs) p.1 S1 []) fun l S2 => Pd (.lst l) S2 := by unfold mLc; simp
@[simp] theorem Ens_mLcN {i : IM} {vs : List Nat} : Ens (mLcN i g tt te vs env S) Pd ↔ Ens (i env S) fun p S1 => Ens (lcD g tt te p.2 (wipeE env vs) p.1 S1 []) fun l S2 => Pd (.loc S2.length) (S2 ++ [.lst l]) := by unfold mLcN; simp
/-- a comprehension with an invariant -/
theorem lc_inv (Inv : Nat → List D → Sto → Prop) : ∀ (ds : List D) (k : Nat) (acc : List D) (S : Sto), Inv k acc S →
    (∀ i acc S, k ≤ i → i ≤ k + ds.length → Inv i acc S → gd S) →
    (∀ i d acc S, k ≤ i → ds[i - k]? = some d → Inv i acc S → Ens (g d env S) fun env1 S1 => Ens (tt env1 S1) fun b S2 => (b = true → Ens (te env1 S2) fun y S3 => acc.length < 16777216 ∧ Inv (i + 1) (acc ++ [y]) S3) ∧ (b = false → Inv (i + 1) acc S2)) →
    (∀ acc S, Inv (k + ds.length) acc S → Pl acc S) → Ens (lcD g tt te gd env ds S acc) Pl
  | [], k, acc, S, h0, hg, hs, he => Ens_lc_nil.mpr ⟨hg k acc S (Nat.le_refl _) (by simp) h0, he acc S h0⟩
  | d :: ds, k, acc, S, h0, hg, hs, he => Ens_lc_cons.mpr ⟨hg k acc S (Nat.le_refl _) (by simp) h0, (hs k d acc S (Nat.le_refl _) (by simp) h0).mono fun env1 S1 h1 => h1.mono fun b S2 h2 => by
      have key : ∀ acc S, Inv (k + 1) acc S → Ens (lcD g tt te gd env ds S acc) Pl := fun acc S h3 =>
        lc_inv Inv ds (k + 1) acc S h3 (fun i acc S h4 h5 h6 => hg i acc S (by omega) (by simp; omega) h6)
          (fun i e acc S h4 h5 h6 => hs i e acc S (by omega) (by
            have : i - k = (i - (k + 1)) + 1 := by omega
            rw [this, List.getElem?_cons_succ]; exact h5) h6) (fun acc S h4 => he acc S (by
            have : k + (d :: ds).length = k + 1 + ds.length := by simp; omega
            rw [this]; exact h4))
      exact ⟨fun e => (h2.1 e).mono fun y S3 h3 => ⟨h3.1, key _ _ h3.2⟩, fun e => key _ _ (h2.2 e)⟩⟩
/-! dict displays -/
section
variable {Pp : List (D × D) → Sto → Prop} {n : PM} {mk mv : TM}
@[simp] theorem Ens_pNil : Ens (pNil env S) Pp ↔ Pp [] S := Iff.rfl
@[simp] theorem Ens_pCons : Ens (pCons mk mv n env S) Pp ↔ Ens (mk env S) fun a S1 => Ens (mv env S1) fun b S2 => Ens (n env S2) fun l S3 => Pp ((a, b) :: l) S3 := by unfold pCons; simp
@[simp] theorem Ens_mDict : Ens (mDict n env S) Pd ↔ Ens (n env S) fun ps S1 => Ens (R.of (kvsD ps) S1) fun kvs S2 => kvs.length ≤ 15 ∧ Pd (.loc S2.length) (S2 ++ [.dct (mergeD [] kvs)]) := by
  unfold mDict
  simp only [Ens_bind]
  constructor <;> exact fun h => h.mono fun a S h => by
    revert h
    cases kvsD a with
    | none => exact id
    | some kvs => by_cases q : kvs.length ≤ 15 <;> simp [q]
end
/-! what is walked -/
variable {Pi : List D × (Sto → Prop) → Sto → Prop} {n : AM} {m : TM}
@[simp] theorem Ens_iSeq : Ens (iSeq m env S) Pi ↔ Ens (m env S) fun d S1 => Ens (R.of (seqD S1 d) S1) fun l S2 => Pi (l, gdSeq d l) S2 := by
  unfold iSeq
  simp only [Ens_bind]
  constructor <;> exact fun h => h.mono fun a S h => by
    revert h
    cases seqD S a <;> exact id
@[simp] theorem gdSeq_tup {l : List D} : gdSeq (.tup l) ds S ↔ True := Iff.rfl
@[simp] theorem gdSeq_lst {l : List D} : gdSeq (.lst l) ds S ↔ True := Iff.rfl
@[simp] theorem gdSeq_wls {l : List D} : gdSeq (.wls l) ds S ↔ True := Iff.rfl
@[simp] theorem gdSeq_loc {n : Nat} : gdSeq (.loc n) ds S ↔ seqD S (.loc n) = some ds := Iff.rfl
@[simp] theorem Ens_iRng1 : Ens (iRng1 n env S) Pi ↔ Ens (n env S) fun l S1 => Ens (R.of (one1 l) S1) fun j S2 => (-1000000000 ≤ j ∧ j ≤ 1000000000) ∧ Pi (rangeD 0 j.toNat, fun _ => True) S2 := by
  unfold iRng1
  simp only [Ens_bind]
  constructor <;> exact fun h => h.mono fun a S h => by
    revert h
    rcases a with _ | ⟨d, _ | ⟨e, r⟩⟩
    · exact id
    · cases d with
      | int j =>
        by_cases q : -1000000000 ≤ j ∧ j ≤ 1000000000
        · simp [q, one1]
        · simp [q, one1]
      | _ => exact id
    · cases d <;> exact id
def zipR (ds : List D) (S1 : Sto) : R (List D × (Sto → Prop)) := match ds with
  | [.tup l, .tup m] => .ok (zipD l m, fun _ => True) S1
  | [a, b] => match lstD S1 a, lstD S1 b with
    | some l, some m => .ok (zipD l m, fun S => gdSeq a l S ∧ gdSeq b m S) S1
    | _, _ => .bad
  | _ => .bad
@[simp] theorem zipR_tup {l m : List D} : zipR [.tup l, .tup m] S = .ok (zipD l m, fun _ => True) S := rfl
@[simp] theorem Ens_iZipD : Ens (iZipD n env S) Pi ↔ Ens (n env S) fun l S1 => Ens (zipR l S1) Pi := by
  show Ens ((n env S).bind zipR) Pi ↔ _
  simp
@[simp] theorem seqD_tup {l : List D} : seqD S (.tup l) = some l := rfl
@[simp] theorem seqD_lst {l : List D} : seqD S (.lst l) = some l := rfl
@[simp] theorem seqD_wls {l : List D} : seqD S (.wls l) = some l := rfl
@[simp] theorem lstD_lst {l : List D} : lstD S (.lst l) = some l := rfl
@[simp] theorem lstD_wls {l : List D} : lstD S (.wls l) = some l := rfl
@[simp] theorem slD_tup {l : List D} {lo hi : Option Int} : slD S (.tup l) lo hi = some (.tup (cutD l lo hi)) := rfl
@[simp] theorem slD_lst {l : List D} {lo hi : Option Int} : slD S (.lst l) lo hi = some (.lst (cutD l lo hi)) := rfl
@[simp] theorem slD_wls {l : List D} {lo hi : Option Int} : slD S (.wls l) lo hi = some (.lst (cutD l lo hi)) := rfl
@[simp] theorem ixD_tup {l : List D} {i : Int} : ixD S (.tup l) (.int i) = L2.atI l i := rfl
@[simp] theorem ixD_lst {l : List D} {i : Int} : ixD S (.lst l) (.int i) = L2.atI l i := rfl
@[simp] theorem lenD_tup {l : List D} : lenD S [.tup l] = some (.int l.length) := rfl
@[simp] theorem lenD_lst {l : List D} : lenD S [.lst l] = some (.int l.length) := rfl
@[simp] theorem absD_int {i : Int} : absD S [.int i] = some (.int (if i < 0 then -i else i)) := rfl
@[simp] theorem max2D_int {i j : Int} : max2D S [.int i, .int j] = some (.int (if j > i then j else i)) := rfl
@[simp] theorem min2D_int {i j : Int} : min2D S [.int i, .int j] = some (.int (if j < i then j else i)) := rfl
@[simp] theorem intfD_int {i : Int} : intfD S [.int i] = some (.int i) := rfl
@[simp] theorem tupleD_lst {l : List D} : tupleD S [.lst l] = some (.tup l) := rfl
@[simp] theorem atI_0 {a : D} {l : List D} : L2.atI (a :: l) 0 = some a := by simp [L2.atI, L2.ixN]
@[simp] theorem atI_1 {a b : D} {l : List D} : L2.atI (a :: b :: l) 1 = some b := by
  have : (1 : Int) < (l.length : Int) + 1 + 1 := by omega
  simp [L2.atI, L2.ixN, this]
@[simp] theorem atI_2 {a b c : D} {l : List D} : L2.atI (a :: b :: c :: l) 2 = some c := by
  have : (2 : Int) < (l.length : Int) + 1 + 1 + 1 := by omega
  simp [L2.atI, L2.ixN, this]
@[simp] theorem atI_3 {a b c d : D} {l : List D} : L2.atI (a :: b :: c :: d :: l) 3 = some d := by
  have : (3 : Int) < (l.length : Int) + 1 + 1 + 1 + 1 := by omega
  simp [L2.atI, L2.ixN, this]
theorem atI_nat {l : List D} {i : Int} (h0 : 0 ≤ i) (h1 : i < l.length) : ∃ d, L2.atI l i = some d ∧ l[i.toNat]? = some d := by
  have h : i.toNat < l.length := by omega
  refine ⟨l[i.toNat], ?_, by simp [h]⟩
  unfold L2.atI L2.ixN
  simp [h0, h1, h]
end
end Mi

namespace Mi
open PySem PySem.Spec PyProof.Rows L2
/-! ### equality of plain data -/
@[simp] theorem eqD_int {S : Sto} {i j : Int} : eqD S (.int i) (.int j) = some (.bl (decide (i = j))) := by
  simp only [eqD, der, D.py, SeqAt.shaped, PyData.canLay0, PyData.depth, PyData.eqv]
  by_cases h : i = j <;> simp [h]
@[simp] theorem neD_int {S : Sto} {i j : Int} : neD S (.int i) (.int j) = some (.bl (decide (i ≠ j))) := by
  simp only [neD, der, D.py, SeqAt.shaped, PyData.canLay0, PyData.depth, PyData.eqv]
  by_cases h : i = j <;> simp [h]
@[simp] theorem eqD_bl {S : Sto} {i j : Bool} : eqD S (.bl i) (.bl j) = some (.bl (decide (i = j))) := by
  cases i <;> cases j <;> simp [eqD, der, D.py, SeqAt.shaped, PyData.canLay0, PyData.depth, PyData.eqv]
@[simp] theorem eqD_b3 {S : Sto} {a b c : Bool} : eqD S (.tup [.bl a, .bl b, .bl c]) (.tup [.bl a, .bl b, .bl c]) = some (.bl true) := by
  cases a <;> cases b <;> cases c <;> simp [eqD, der, D.py, D.pys, SeqAt.shaped, PyData.canLay0, PyData.canLayAll0, PyData.depth, PyData.depthAll, PyData.eqv, PyData.eqvAll]
theorem eqD_str {S : Sto} {x : Str} (h : SeqAt.shaped (.str x) = true) : eqD S (.str x) (.str x) = some (.bl true) := by
  simp [eqD, der, D.py, h, PyData.eqv]
theorem eqv3 {a b c x y z : Int} : PyData.eqv (.tuple [.int a, .int b, .int c]) (.tuple [.int x, .int y, .int z]) = decide (a = x ∧ b = y ∧ c = z) := by
  by_cases h1 : a = x <;> by_cases h2 : b = y <;> by_cases h3 : c = z <;> simp [PyData.eqv, PyData.eqvAll, h1, h2, h3]
@[simp] theorem eqD_3 {S : Sto} {a b c x y z : Int} : eqD S (.tup [.int a, .int b, .int c]) (.tup [.int x, .int y, .int z]) = some (.bl (decide (a = x ∧ b = y ∧ c = z))) := by
  have e : eqD S (.tup [.int a, .int b, .int c]) (.tup [.int x, .int y, .int z]) = some (.bl (PyData.eqv (.tuple [.int a, .int b, .int c]) (.tuple [.int x, .int y, .int z]))) := by
    simp [eqD, der, D.py, D.pys, SeqAt.shaped, PyData.canLay0, PyData.canLayAll0, PyData.depth, PyData.depthAll]
  rw [e, eqv3]
@[simp] theorem neD_3 {S : Sto} {a b c x y z : Int} : neD S (.tup [.int a, .int b, .int c]) (.tup [.int x, .int y, .int z]) = some (.bl (decide (¬ (a = x ∧ b = y ∧ c = z)))) := by
  have e : neD S (.tup [.int a, .int b, .int c]) (.tup [.int x, .int y, .int z]) = some (.bl (!PyData.eqv (.tuple [.int a, .int b, .int c]) (.tuple [.int x, .int y, .int z]))) := by
    simp [neD, der, D.py, D.pys, SeqAt.shaped, PyData.canLay0, PyData.canLayAll0, PyData.depth, PyData.depthAll]
  rw [e, eqv3, decide_not]
theorem pys_int {l : List Int} : PyData.canLayAll0 (D.pys (l.map D.int)) = true ∧ PyData.depthAll (D.pys (l.map D.int)) = 0 := by
  induction l with
  | nil => exact ⟨rfl, rfl⟩
  | cons a l ih => simp [D.pys, D.py, PyData.canLayAll0, PyData.depthAll, PyData.canLay0, PyData.depth, ih]
@[simp] theorem neD_nil {S : Sto} {n : Nat} {l : List Int} (h : S[n]? = some (.lst (l.map D.int))) : neD S (.loc n) (.lst []) = some (.bl (decide (l ≠ []))) := by
  have e : der S (.loc n) = .lst (l.map D.int) := by simp [der, h]
  unfold neD
  rw [e]
  have h1 := (pys_int (l := l)).1
  have h2 := (pys_int (l := l)).2
  have s1 : SeqAt.shaped (D.lst (l.map D.int)).py = true := by simp [SeqAt.shaped, D.py, PyData.canLay0, PyData.depth, h1, h2]
  have s2 : SeqAt.shaped (der S (D.lst [])).py = true := by simp [der, SeqAt.shaped, D.py, D.pys, PyData.canLay0, PyData.canLayAll0, PyData.depthAll, PyData.depth]
  rw [if_pos ⟨s1, s2⟩]
  cases l with
  | nil => simp [der, D.py, D.pys, PyData.eqv, PyData.eqvAll]
  | cons a l => simp [der, D.py, D.pys, PyData.eqv, PyData.eqvAll]
/-! ### a law's deck: the cells, a number, how many draws there were -/
def deckS (c : List Int) (m n : Int) (T : Sto) : Sto := .lst (c.map D.int) :: .dct [(.inr "cells", .loc 0), (.inr "mixed", .int m), (.inr "draws", .int n)] :: T
section
variable {c : List Int} {m n k : Int} {T : Sto}
@[simp] theorem dk_left : ixD (deckS c m n T) (.loc 1) (.str "cells") = some (.loc 0) := by rfl
@[simp] theorem dk_mixed : ixD (deckS c m n T) (.loc 1) (.str "mixed") = some (.int m) := by rfl
@[simp] theorem dk_draws : ixD (deckS c m n T) (.loc 1) (.str "draws") = some (.int n) := by rfl
@[simp] theorem dk_set : setD (deckS c m n T) (.loc 1) (.str "draws") (.int k) = some (deckS c m k T) := by rfl
@[simp] theorem dk_isT : isT (deckS c m n T) "list" (.loc 0) = true := by rfl
@[simp] theorem dk_ne : neD (deckS c m n T) (.loc 0) (.lst []) = some (.bl (decide (c ≠ []))) := neD_nil rfl
theorem dk_pop (h : c ≠ []) : popD (deckS c m n T) (.loc 0) [] = some (.int (c.getLast h), deckS c.dropLast m n T) := by
  have hl : 0 < c.length := List.length_pos_iff.mpr h
  have e : (c.map D.int)[(c.map D.int).length - 1]? = some (.int (c.getLast h)) := by
    rw [List.length_map, List.getElem?_map, List.getLast_eq_getElem]
    simp [hl]
  show (match (c.map D.int)[(c.map D.int).length - 1]? with
    | some y => some (y, (deckS c m n T).set 0 (.lst (c.map D.int).dropLast))
    | none => none) = _
  rw [e]
  simp [deckS, List.map_dropLast]
theorem dk_app (h : c.length ≤ 63) : appD (deckS c m n T) (.loc 0) [.int k] = some (.non, deckS (c ++ [k]) m n T) := by
  show (if (c.map D.int).length < 16777216 then some (D.non, (deckS c m n T).set 0 (.lst (c.map D.int ++ [.int k]))) else none) = _
  rw [if_pos (by simp; omega)]
  simp [deckS]
/-- at most N draws so far -/
def DkP (N : Nat) (T S : Sto) : Prop := ∃ c m n, S = deckS c m n T ∧ c.length ≤ 63 ∧ 0 ≤ m ∧ m < 2147483629 ∧ 0 ≤ n ∧ n ≤ (N : Int)
theorem DkP.up {N M : Nat} {T S : Sto} (h : DkP N T S) (k : N ≤ M) : DkP M T S := by
  obtain ⟨c, m, n, h1, h2, h3, h4, h5, h6⟩ := h
  exact ⟨c, m, n, h1, h2, h3, h4, h5, by omega⟩
end
end Mi

namespace Mi
open PySem PySem.Spec PyProof.Rows L2
/-! ### greatest common divisors, lowest terms -/
def g2 (x y : Int) : Int := (Int.gcd x y : Int)
def g3 (x y w : Int) : Int := g2 (g2 x y) w
theorem g2_nonneg (x y : Int) : 0 ≤ g2 x y := Int.natCast_nonneg _
theorem g2_dvd_left (x y : Int) : g2 x y ∣ x := Int.gcd_dvd_left ..
theorem g2_dvd_right (x y : Int) : g2 x y ∣ y := Int.gcd_dvd_right ..
theorem g2_pos {x y : Int} (h : 0 < y) : 0 < g2 x y := by
  have := Int.gcd_pos_of_ne_zero_right x (b := y) (by omega)
  unfold g2; omega
theorem g2_le {x y : Int} (h : 0 < y) : g2 x y ≤ y := Int.le_of_dvd h (g2_dvd_right x y)
theorem g3_pos {x y w : Int} (h : 0 < w) : 0 < g3 x y w := g2_pos h
theorem g3_le {x y w : Int} (h : 0 < w) : g3 x y w ≤ w := g2_le h
theorem g3_dvd {x y w : Int} : g3 x y w ∣ x ∧ g3 x y w ∣ y ∧ g3 x y w ∣ w :=
  ⟨Int.dvd_trans (g2_dvd_left _ _) (g2_dvd_left _ _), Int.dvd_trans (g2_dvd_left _ _) (g2_dvd_right _ _), g2_dvd_right _ _⟩
theorem g2_scale {h x y : Int} (hh : 0 ≤ h) : g2 (h * x) (h * y) = h * g2 x y := by
  unfold g2
  rw [Int.gcd_mul_left]
  have : (h.natAbs : Int) = h := by omega
  rw [Int.natCast_mul, this]
theorem g3_scale {h x y w : Int} (hh : 0 ≤ h) : g3 (h * x) (h * y) (h * w) = h * g3 x y w := by
  unfold g3
  rw [g2_scale hh, g2_scale hh]
theorem bd_g2 {x y : Int} {m : Nat} [b : Bd y m] (h : 0 < y) : Bd (g2 x y) m := by
  have h1 := g2_le (x := x) h
  have h2 := g2_nonneg x y
  have h3 := b.hi
  have h4 := b.lo
  exact bd_lt (by omega) (by omega)
/-- a spot in lowest terms, as data -/
def spD3 (x y w : Int) : D := .tup [.int (x / g3 x y w), .int (y / g3 x y w), .int (w / g3 x y w)]
def frD (n d : Int) : D := .tup [.int (n / g2 n d), .int (d / g2 n d)]
theorem mul_div_scale {h x g : Int} (hh : 0 < h) : h * x / (h * g) = x / g := Int.mul_ediv_mul_of_pos x g hh
theorem spD3_scale {h x y w : Int} (hh : 0 < h) : spD3 (h * x) (h * y) (h * w) = spD3 x y w := by
  unfold spD3
  rw [g3_scale (by omega), mul_div_scale hh, mul_div_scale hh, mul_div_scale hh]
theorem spD3_eq {x y w X Y Z : Int} (hw : 0 < w) (hZ : 0 < Z) (h1 : x * Z = X * w) (h2 : y * Z = Y * w) : spD3 x y w = spD3 X Y Z := by
  have e1 : Z * x = w * X := by rw [Int.mul_comm, h1, Int.mul_comm]
  have e2 : Z * y = w * Y := by rw [Int.mul_comm, h2, Int.mul_comm]
  have e3 : Z * w = w * Z := Int.mul_comm ..
  calc spD3 x y w = spD3 (Z * x) (Z * y) (Z * w) := (spD3_scale hZ).symm
    _ = spD3 (w * X) (w * Y) (w * Z) := by rw [e1, e2, e3]
    _ = spD3 X Y Z := spD3_scale hw
theorem spD3_low {x y w : Int} (h : g3 x y w = 1) : spD3 x y w = .tup [.int x, .int y, .int w] := by
  unfold spD3
  rw [h, Int.ediv_one, Int.ediv_one, Int.ediv_one]
theorem frD_scale {h n d : Int} (hh : 0 < h) : frD (h * n) (h * d) = frD n d := by
  unfold frD
  rw [g2_scale (by omega), mul_div_scale hh, mul_div_scale hh]
/-- the parts of lowest terms -/
theorem low_parts {x y w : Int} (hw : 0 < w) : ∃ g a b c, 0 < g ∧ x = g * a ∧ y = g * b ∧ w = g * c ∧ 0 < c ∧ c ≤ w ∧ g3 a b c = 1 ∧ spD3 x y w = .tup [.int a, .int b, .int c] ∧ a.natAbs ≤ x.natAbs ∧ b.natAbs ≤ y.natAbs := by
  have hg := g3_pos (x := x) (y := y) hw
  obtain ⟨⟨a, ha⟩, ⟨b, hb⟩, ⟨c, hc⟩⟩ := g3_dvd (x := x) (y := y) (w := w)
  have hg0 : g3 x y w ≠ 0 := by omega
  have e1 : x / g3 x y w = a := by
    conv => lhs; lhs; rw [ha]
    exact Int.mul_ediv_cancel_left a hg0
  have e2 : y / g3 x y w = b := by
    conv => lhs; lhs; rw [hb]
    exact Int.mul_ediv_cancel_left b hg0
  have e3 : w / g3 x y w = c := by
    conv => lhs; lhs; rw [hc]
    exact Int.mul_ediv_cancel_left c hg0
  have hcp : 0 < c := by
    rcases Int.lt_trichotomy c 0 with q | q | q
    · have := Int.mul_neg_of_pos_of_neg hg q
      omega
    · subst q; simp at hc; omega
    · exact q
  refine ⟨g3 x y w, a, b, c, hg, ha, hb, hc, hcp, ?_, ?_, ?_, ?_, ?_⟩
  · have : c * 1 ≤ c * g3 x y w := Int.mul_le_mul_of_nonneg_left (by omega) (by omega)
    rw [Int.mul_comm c (g3 x y w), ← hc] at this
    omega
  · have h1 := g3_scale (h := g3 x y w) (x := a) (y := b) (w := c) (by omega)
    rw [← ha, ← hb, ← hc] at h1
    have h2 : g3 x y w * 1 = g3 x y w * g3 a b c := by rw [Int.mul_one]; exact h1
    exact (Int.eq_of_mul_eq_mul_left hg0 h2).symm
  · unfold spD3
    rw [e1, e2, e3]
  · have q := congrArg Int.natAbs ha
    rw [Int.natAbs_mul] at q
    rw [q]
    exact Nat.le_mul_of_pos_left _ (by omega)
  · have q := congrArg Int.natAbs hb
    rw [Int.natAbs_mul] at q
    rw [q]
    exact Nat.le_mul_of_pos_left _ (by omega)
theorem fr_parts {n d : Int} (hd : 0 < d) : ∃ g a b, 0 < g ∧ n = g * a ∧ d = g * b ∧ 0 < b ∧ frD n d = .tup [.int a, .int b] ∧ a.natAbs ≤ n.natAbs ∧ b ≤ d := by
  have hg := g2_pos (x := n) hd
  obtain ⟨a, ha⟩ := g2_dvd_left n d
  obtain ⟨b, hb⟩ := g2_dvd_right n d
  have hg0 : g2 n d ≠ 0 := by omega
  have e1 : n / g2 n d = a := by
    conv => lhs; lhs; rw [ha]
    exact Int.mul_ediv_cancel_left a hg0
  have e2 : d / g2 n d = b := by
    conv => lhs; lhs; rw [hb]
    exact Int.mul_ediv_cancel_left b hg0
  have hbp : 0 < b := by
    rcases Int.lt_trichotomy b 0 with q | q | q
    · have := Int.mul_neg_of_pos_of_neg hg q
      omega
    · subst q; simp at hb; omega
    · exact q
  refine ⟨g2 n d, a, b, hg, ha, hb, hbp, ?_, ?_, ?_⟩
  · unfold frD
    rw [e1, e2]
  · have q := congrArg Int.natAbs ha
    rw [Int.natAbs_mul] at q
    rw [q]
    exact Nat.le_mul_of_pos_left _ (by omega)
  · have : b * 1 ≤ b * g2 n d := Int.mul_le_mul_of_nonneg_left (by omega) (by omega)
    rw [Int.mul_comm b (g2 n d), ← hb] at this
    omega
/-- two whole numbers taken in turn, by remainders -/
theorem g2_step {a b : Int} (ha : 0 ≤ a) (hb : 0 < b) : g2 b (a % b) = g2 a b := by
  obtain ⟨p, rfl⟩ := Int.eq_ofNat_of_zero_le ha
  obtain ⟨q, rfl⟩ := Int.eq_ofNat_of_zero_le (Int.le_of_lt hb)
  have e : ((p : Int) % (q : Int)) = ((p % q : Nat) : Int) := (Int.natCast_emod p q).symm
  unfold g2
  rw [e]
  show ((Nat.gcd q (p % q) : Nat) : Int) = ((Nat.gcd p q : Nat) : Int)
  congr 1
  rw [Nat.gcd_comm q, ← Nat.gcd_rec, Nat.gcd_comm]
theorem g2_zero {a : Int} (ha : 0 ≤ a) : g2 a 0 = a := by
  unfold g2
  simp
  omega
theorem g2_abs {a b : Int} : g2 (if a < 0 then -a else a) (if b < 0 then -b else b) = g2 a b := by
  unfold g2
  split <;> split <;> simp
end Mi

namespace Mi
open PySem PySem.Spec PyProof.Rows L2
/-! ### more readings -/
section
variable {env : En} {S : Sto} {Pd : D → Sto → Prop} {Pi : List D × (Sto → Prop) → Sto → Prop} {n : AM}
@[simp] theorem addID_int {i j : Int} : addID S (.int i) (.int j) = some (.int (i + j)) := rfl
@[simp] theorem subID_int {i j : Int} : subID S (.int i) (.int j) = some (.int (i - j)) := rfl
def lstR (ds : List D) (S1 : Sto) : R D := match ds with
  | [d] => match seqD S1 d with
    | some l => R.new (.lst l) S1
    | none => .bad
  | _ => .bad
@[simp] theorem lstR_tup {l : List D} : lstR [.tup l] S = .ok (.loc S.length) (S ++ [.lst l]) := rfl
@[simp] theorem lstR_lst {l : List D} : lstR [.lst l] S = .ok (.loc S.length) (S ++ [.lst l]) := rfl
@[simp] theorem lstR_wls {l : List D} : lstR [.wls l] S = .ok (.loc S.length) (S ++ [.lst l]) := rfl
@[simp] theorem Ens_mListN : Ens (mListN n env S) Pd ↔ Ens (n env S) fun ds S1 => Ens (lstR ds S1) Pd := by
  show Ens ((n env S).bind lstR) Pd ↔ _
  simp
def enR (ds : List D) (S1 : Sto) : R (List D × (Sto → Prop)) := match ds with
  | [.tup l] => .ok (enumD l, fun _ => True) S1
  | [a] => match lstD S1 a with
    | some l => .ok (enumD l, gdSeq a l) S1
    | _ => .bad
  | _ => .bad
@[simp] theorem enR_tup {l : List D} : enR [.tup l] S = .ok (enumD l, fun _ => True) S := rfl
@[simp] theorem enR_lst {l : List D} : enR [.lst l] S = .ok (enumD l, gdSeq (.lst l) l) S := rfl
theorem enR_loc {k : Nat} {l : List D} (h : S[k]? = some (.lst l)) : enR [.loc k] S = .ok (enumD l, gdSeq (.loc k) l) S := by
  have : lstD S (.loc k) = some l := by simp [lstD, der, h]
  simp [enR, this]
@[simp] theorem Ens_iEnA : Ens (iEnA n env S) Pi ↔ Ens (n env S) fun ds S1 => Ens (enR ds S1) Pi := by
  show Ens ((n env S).bind enR) Pi ↔ _
  simp
theorem enum_get {l : List D} {i : Nat} {d : D} (h : (enumD l)[i]? = some d) : ∃ x, l[i]? = some x ∧ d = .tup [.int i, x] := by
  unfold enumD zipD at h
  rw [List.getElem?_map] at h
  cases e : ((rangeD 0 l.length).zip l)[i]? with
  | none => rw [e] at h; cases h
  | some p =>
    rw [e] at h
    cases h
    rw [List.getElem?_zip_eq_some] at e
    have hi : i < l.length := (List.getElem?_eq_some_iff.mp e.2).1
    have e1 := e.1
    rw [rangeD_get hi] at e1
    refine ⟨_, e.2, ?_⟩
    have : p.1 = D.int (i : Int) := by
      have := Option.some.inj e1
      rw [← this]; simp
    show D.tup [p.fst, p.snd] = _
    rw [this]
@[simp] theorem enum_len {l : List D} : (enumD l).length = l.length := by
  unfold enumD zipD
  rw [List.length_map, List.length_zip, rangeD_length, Nat.min_self]
@[simp] theorem Ens_mChain3 {g g' g'' : G2} {ma mb mc md : TM} : Ens (mChain3 g g' g'' ma mb mc md env S) Pd ↔ Ens (ma env S) fun a S1 => Ens (mb env S1) fun b S2 => Ens (R.of ((g S2 a b).bind blD) S2) fun t S3 =>
    (t = true → Ens (mc env S3) fun c S4 => Ens (R.of ((g' S4 b c).bind blD) S4) fun u S5 => (u = true → Ens (md env S5) fun d S6 => Ens (R.of (g'' S6 c d) S6) Pd) ∧ (u = false → Pd (.bl false) S5)) ∧ (t = false → Pd (.bl false) S3) := by
  unfold mChain3
  simp only [Ens_bind]
  constructor <;> exact fun h => h.mono fun a S h => h.mono fun b S h => by
    revert h
    cases g S a b with
    | none => exact id
    | some d =>
      cases d with
      | bl b =>
        intro h
        cases b with
        | false => simpa [blD] using h
        | true =>
          simp only [Option.bind, blD, R.of, Ens_ok, Ens_bind] at h ⊢
          first
            | refine ⟨fun _ => ?_, fun z => by cases z⟩
              refine h.mono fun c S h => ?_
              revert h
              cases g' S _ c with
              | none => exact id
              | some d =>
                cases d with
                | bl b => intro h; cases b <;> simpa [blD] using h
                | _ => exact id
            | refine (h.1 trivial).mono fun c S h => ?_
              revert h
              cases g' S _ c with
              | none => exact id
              | some d =>
                cases d with
                | bl b => intro h; cases b <;> simpa [blD] using h
                | _ => exact id
      | _ => exact id
@[simp] theorem sort2_lst {i j : Int} : sort2D S [.lst [.int i, .int j]] = some (.lst [.int (if j < i then j else i), .int (if j < i then i else j)]) := rfl
end
/-! ### equality of data without truth values -/
mutual
def D.pure : D → Bool
  | .non => true
  | .int _ => true
  | .str _ => true
  | .tup l => D.pures l
  | _ => false
def D.pures : List D → Bool
  | [] => true
  | d :: l => D.pure d && D.pures l
end
mutual
theorem eqv_pure : ∀ d e : D, d.pure = true → e.pure = true → (PyData.eqv d.py e.py = true ↔ d = e)
  | .non, e, _, h => by cases e <;> simp_all [D.pure, D.py, PyData.eqv]
  | .int _, e, _, h => by cases e <;> simp_all [D.pure, D.py, PyData.eqv]
  | .str _, e, _, h => by cases e <;> simp_all [D.pure, D.py, PyData.eqv]
  | .bl _, e, h, _ => by simp [D.pure] at h
  | .lst _, e, h, _ => by simp [D.pure] at h
  | .wls _, e, h, _ => by simp [D.pure] at h
  | .loc _, e, h, _ => by simp [D.pure] at h
  | .gl _, e, h, _ => by simp [D.pure] at h
  | .ty _, e, h, _ => by simp [D.pure] at h
  | .tup l, .tup m, h1, h2 => by
    have := eqvs_pure l m (by simpa [D.pure] using h1) (by simpa [D.pure] using h2)
    simpa [D.py, PyData.eqv] using this
  | .tup l, .non, h1, h2 => by simp [D.py, PyData.eqv]
  | .tup l, .int _, h1, h2 => by simp [D.py, PyData.eqv]
  | .tup l, .str _, h1, h2 => by simp [D.py, PyData.eqv]
  | .tup l, .bl _, h1, h2 => by simp [D.pure] at h2
  | .tup l, .lst _, h1, h2 => by simp [D.pure] at h2
  | .tup l, .wls _, h1, h2 => by simp [D.pure] at h2
  | .tup l, .loc _, h1, h2 => by simp [D.pure] at h2
  | .tup l, .gl _, h1, h2 => by simp [D.pure] at h2
  | .tup l, .ty _, h1, h2 => by simp [D.pure] at h2
theorem eqvs_pure : ∀ l m : List D, D.pures l = true → D.pures m = true → (PyData.eqvAll (D.pys l) (D.pys m) = true ↔ l = m)
  | [], [], _, _ => by simp [D.pys, PyData.eqvAll]
  | [], _ :: _, _, _ => by simp [D.pys, PyData.eqvAll]
  | _ :: _, [], _, _ => by simp [D.pys, PyData.eqvAll]
  | d :: l, e :: m, h1, h2 => by
    have h1' : d.pure = true ∧ D.pures l = true := by simpa [D.pures] using h1
    have h2' : e.pure = true ∧ D.pures m = true := by simpa [D.pures] using h2
    have a := eqv_pure d e h1'.1 h2'.1
    have b := eqvs_pure l m h1'.2 h2'.2
    simp [D.pys, PyData.eqvAll, a, b]
end
/-- small enough to be compared -/
def D.sh (n : Nat) (d : D) : Prop := d.py.canLay0 = true ∧ d.py.depth ≤ n
theorem D.sh.ok {d : D} {n : Nat} (h : d.sh n) (hn : n ≤ 64) : SeqAt.shaped d.py = true := by
  simp [SeqAt.shaped, h.1, Nat.le_trans h.2 hn]
theorem D.sh.up {d : D} {n m : Nat} (h : d.sh n) (hn : n ≤ m) : d.sh m := ⟨h.1, Nat.le_trans h.2 hn⟩
theorem shs_ok {l : List D} {n : Nat} (h : ∀ d ∈ l, d.sh n) : PyData.canLayAll0 (D.pys l) = true ∧ PyData.depthAll (D.pys l) ≤ n := by
  induction l with
  | nil => exact ⟨rfl, Nat.zero_le _⟩
  | cons a l ih =>
    obtain ⟨h1, h2⟩ := ih fun d hd => h d (List.mem_cons_of_mem _ hd)
    obtain ⟨h3, h4⟩ := h a List.mem_cons_self
    refine ⟨by simp [D.pys, PyData.canLayAll0, h1, h3], ?_⟩
    show max a.py.depth (PyData.depthAll (D.pys l)) ≤ n
    exact Nat.max_le.mpr ⟨h4, h2⟩
theorem D.sh.tup {l : List D} {n : Nat} (h : ∀ d ∈ l, d.sh n) : (D.tup l).sh (n + 1) := by
  obtain ⟨h1, h2⟩ := shs_ok h
  exact ⟨by simp [D.py, PyData.canLay0, h1], by simp [D.py, PyData.depth, h2]⟩
theorem D.sh.lst {l : List D} {n : Nat} (h : ∀ d ∈ l, d.sh n) : (D.lst l).sh (n + 1) := by
  obtain ⟨h1, h2⟩ := shs_ok h
  exact ⟨by simp [D.py, PyData.canLay0, h1], by simp [D.py, PyData.depth, h2]⟩
theorem sh_int {i : Int} {n : Nat} : (D.int i).sh n := ⟨rfl, by simp [D.py, PyData.depth]⟩
theorem sh_non {n : Nat} : (D.non).sh n := ⟨rfl, by simp [D.py, PyData.depth]⟩
theorem sh_bl {b : Bool} {n : Nat} : (D.bl b).sh n := ⟨rfl, by simp [D.py, PyData.depth]⟩
theorem sh_str {x : Str} {n : Nat} (h : SeqAt.shaped (.str x) = true) : (D.str x).sh n := ⟨SeqAt.canLay_of_shaped h, by simp [D.py, PyData.depth]⟩
theorem eqD_nil {S : Sto} {a : D} {l : List D} (e : der S a = .lst l) (h : ∀ d ∈ l, d.sh 60) : eqD S a (.lst []) = some (.bl (decide (l = []))) := by
  have h1 : SeqAt.shaped (D.lst l).py = true := (D.sh.lst h).ok (by decide)
  have h2 : SeqAt.shaped (D.lst []).py = true := (D.sh.lst (n := 0) (fun d hd => by cases hd)).ok (by decide)
  unfold eqD
  rw [e, show der S (.lst []) = .lst [] from rfl, if_pos ⟨h1, h2⟩]
  cases l <;> simp [D.py, D.pys, PyData.eqv, PyData.eqvAll]
theorem neD_nil' {S : Sto} {a : D} {l : List D} (e : der S a = .lst l) (h : ∀ d ∈ l, d.sh 60) : neD S a (.lst []) = some (.bl (decide (l ≠ []))) := by
  have h1 : SeqAt.shaped (D.lst l).py = true := (D.sh.lst h).ok (by decide)
  have h2 : SeqAt.shaped (D.lst []).py = true := (D.sh.lst (n := 0) (fun d hd => by cases hd)).ok (by decide)
  unfold neD
  rw [e, show der S (.lst []) = .lst [] from rfl, if_pos ⟨h1, h2⟩]
  cases l <;> simp [D.py, D.pys, PyData.eqv, PyData.eqvAll]
theorem neD_nilT {S : Sto} {l : List D} (h : ∀ d ∈ l, d.sh 60) : neD S (.tup l) (.tup []) = some (.bl (decide (l ≠ []))) := by
  have h1 : SeqAt.shaped (D.tup l).py = true := (D.sh.tup h).ok (by decide)
  have h2 : SeqAt.shaped (D.tup []).py = true := (D.sh.tup (n := 0) (fun d hd => by cases hd)).ok (by decide)
  unfold neD
  rw [show der S (.tup l) = .tup l from rfl, show der S (.tup []) = .tup [] from rfl, if_pos ⟨h1, h2⟩]
  cases l <;> simp [D.py, D.pys, PyData.eqv, PyData.eqvAll]
open Classical in
theorem eqD_pure {S : Sto} {a b : D} (ha : der S a = a) (hb : der S b = b) (sa : a.sh 60) (sb : b.sh 60) (pa : a.pure = true) (pb : b.pure = true) : eqD S a b = some (.bl (decide (a = b))) := by
  unfold eqD
  rw [ha, hb, if_pos ⟨sa.ok (by decide), sb.ok (by decide)⟩]
  have := eqv_pure a b pa pb
  by_cases e : a = b
  · rw [this.mpr e, decide_eq_true e]
  · have : PyData.eqv a.py b.py = false := by
      cases h : PyData.eqv a.py b.py
      · rfl
      · exact absurd (this.mp h) e
    simp [this, e]
/-- l.index(x) -/
theorem idxD_ok {S : Sto} {l : List D} {d : D} {i : Nat} (hl : ∀ d ∈ l, d.sh 50) (pl : ∀ d ∈ l, d.pure = true) (hd : der S d = d) (hi : l[i]? = some d) (hn : l.Nodup) : idxD S (.lst l) [d] = some (.int i, S) := by
  have hm : d ∈ l := List.mem_of_getElem? hi
  have h1 : SeqAt.shaped (D.lst l).py = true := (D.sh.lst hl).ok (by decide)
  have h2 : SeqAt.shaped d.py = true := (hl d hm).ok (by decide)
  have hlt : i < l.length := (List.getElem?_eq_some_iff.mp hi).1
  have hil : l[i] = d := (List.getElem?_eq_some_iff.mp hi).2
  have key : ∀ m : List D, D.pys m = m.map D.py := fun m => by
    induction m with
    | nil => rfl
    | cons a m ih => simp [D.pys, ih]
  have hf : (D.pys l).findIdx? (fun z => PyData.eqv z d.py) = some i := by
    rw [key, List.findIdx?_map]
    rw [List.findIdx?_eq_some_iff_getElem]
    refine ⟨hlt, ?_, fun j hj => ?_⟩
    · simp only [Function.comp]
      rw [hil]
      exact (eqv_pure d d (pl d hm) (pl d hm)).mpr rfl
    · simp only [Function.comp]
      intro z
      have hjl : j < l.length := by omega
      have := (eqv_pure l[j] d (pl _ (List.getElem_mem _)) (pl d hm)).mp z
      rw [← hil] at this
      exact List.pairwise_iff_getElem.mp hn j i hjl hlt hj this
  simp only [idxD, lstD_lst, hd]
  have h3 : SeqAt.shaped (.list (D.pys l)) = true := h1
  rw [if_pos ⟨h2, h3⟩, hf]
  rfl
end Mi

namespace Mi
open PySem PySem.Spec PyProof.Rows L2
/-! ### the readings of Mi17 .. Mi20 -/
section
variable {env : En} {S : Sto} {Pd : D → Sto → Prop} {n : AM} {m : TM} {l : List D}
@[simp] theorem eq0D_lst : eq0D S (.lst l) (.lst []) = some (.bl (decide (l = []))) := by
  cases l <;> simp [eq0D, emptyB, der]
@[simp] theorem ne0D_lst : ne0D S (.lst l) (.lst []) = some (.bl (decide (l ≠ []))) := by
  cases l <;> simp [ne0D, emptyB, der]
@[simp] theorem eq0D_tup : eq0D S (.tup l) (.tup []) = some (.bl (decide (l = []))) := by
  cases l <;> simp [eq0D, emptyB, der]
@[simp] theorem ne0D_tup : ne0D S (.tup l) (.tup []) = some (.bl (decide (l ≠ []))) := by
  cases l <;> simp [ne0D, emptyB, der]
theorem ne0D_loc {k : Nat} (h : S[k]? = some (.lst l)) : ne0D S (.loc k) (.lst []) = some (.bl (decide (l ≠ []))) := by
  cases l <;> simp [ne0D, emptyB, der, h]
theorem eq0D_loc {k : Nat} (h : S[k]? = some (.lst l)) : eq0D S (.loc k) (.lst []) = some (.bl (decide (l = []))) := by
  cases l <;> simp [eq0D, emptyB, der, h]
@[simp] theorem dk_ne0 {c : List Int} {m n : Int} {T : Sto} : ne0D (deckS c m n T) (.loc 0) (.lst []) = some (.bl (decide (c ≠ []))) := by
  rw [ne0D_loc (l := c.map D.int) (by rfl)]
  cases c <;> simp
@[simp] theorem mDic0_ok : mDic0 env S = .ok (.dic [] []) S := rfl
def dicR (ps : List (D × D)) (S1 : Sto) : R D := match kvsD ps with
  | some kvs => if kvs.length ≤ 15 then .ok (dicD kvs) S1 else .bad
  | none => .bad
@[simp] theorem Ens_mDic {n : PM} : Ens (mDic n env S) Pd ↔ Ens (n env S) fun ps S1 => Ens (dicR ps S1) Pd := by
  show Ens ((n env S).bind dicR) Pd ↔ _
  simp
@[simp] theorem dicR_one {x : Str} {d : D} : dicR [(.str x, d)] S = .ok (.dic [.inr x] [d]) S := by
  simp [dicR, kvsD, keyD, dicD, mergeD, putD]
@[simp] theorem Ens_mRevA : Ens (mRevA m env S) Pd ↔ Ens (m env S) fun d S1 => Ens (R.of (revA S1 d) S1) Pd := by unfold mRevA; simp
@[simp] theorem revA_tup : revA S (.tup l) = some (.tup l.reverse) := rfl
@[simp] theorem revA_lst : revA S (.lst l) = some (.lst l.reverse) := rfl
@[simp] theorem Ens_mSlA {lo hi : En → Sto → R (Option Int)} : Ens (mSlA m lo hi env S) Pd ↔ Ens (m env S) fun a S1 => Ens (lo env S1) fun l S2 => Ens (hi env S2) fun u S3 => Ens (R.of (slA S3 a l u) S3) Pd := by unfold mSlA; simp
@[simp] theorem slA_tup {lo hi : Option Int} : slA S (.tup l) lo hi = some (.tup (cutD l lo hi)) := rfl
@[simp] theorem slA_lst {lo hi : Option Int} : slA S (.lst l) lo hi = some (.lst (cutD l lo hi)) := rfl
@[simp] theorem Ens_mLstRg : Ens (mLstRg m env S) Pd ↔ Ens (m env S) fun d S1 => Ens (rngR d S1) Pd := by
  show Ens ((m env S).bind rngR) Pd ↔ _
  simp
theorem rngR_ok {j : Int} (h0 : 0 ≤ j) (h1 : j ≤ 16777216) : rngR (.int j) S = .ok (.lst (rangeD 0 j.toNat)) S := by
  simp [rngR, h0, h1]
theorem strD_ok {i : Int} (h : i.natAbs.log2 < 1920) : strD S [.int i] = some (.str (toString i)) := by
  simp [strD, h]
@[simp] theorem listD_tup : listD S [.tup l] = some (.lst l) := rfl
@[simp] theorem listD_lst : listD S [.lst l] = some (.lst l) := rfl
end
end Mi

namespace Mi
open PySem PySem.Spec PyProof.Rows L2
/-! ### odd values -/
mutual
def od : D → Bool
  | .non => true
  | .bl _ => true
  | .int _ => true
  | .str x => SeqAt.shaped (.str x)
  | .tup l => ods l && decide (l.length ≤ 1000)
  | .lst l => ods l && decide (l.length ≤ 1000)
  | .dic _ _ => true
  | _ => false
def ods : List D → Bool
  | [] => true
  | d :: l => od d && ods l
end
theorem ods_iff {l : List D} : ods l = true ↔ ∀ d ∈ l, od d = true := by
  induction l with
  | nil => simp [ods]
  | cons a l ih => simp [ods, ih]
theorem od_tup {l : List D} : od (.tup l) = true ↔ (∀ d ∈ l, od d = true) ∧ l.length ≤ 1000 := by simp [od, ods_iff]
theorem od_lst {l : List D} : od (.lst l) = true ↔ (∀ d ∈ l, od d = true) ∧ l.length ≤ 1000 := by simp [od, ods_iff]
@[simp] theorem od_non : od .non = true := rfl
@[simp] theorem od_bl {b : Bool} : od (.bl b) = true := rfl
@[simp] theorem od_int {i : Int} : od (.int i) = true := rfl
@[simp] theorem od_dic {k : List Key} {l : List D} : od (.dic k l) = true := rfl
/-- what odd values are made of -/
def innd : Nat → D → Bool
  | 0, _ => false
  | n + 1, .tup l => l.all (innd n) && decide (l.length ≤ 100)
  | _ + 1, .int i => decide (i.natAbs < 2 ^ 1000)
  | _ + 1, .str x => SeqAt.shaped (.str x) && decide (x.length ≤ 100)
  | _ + 1, _ => false
theorem innd_od : ∀ (n : Nat) (d : D), innd n d = true → od d = true
  | 0, _, h => by cases h
  | n + 1, .tup l, h => by
    have h' : (∀ x ∈ l, innd n x = true) ∧ l.length ≤ 100 := by simpa [innd] using h
    exact od_tup.mpr ⟨fun d hd => innd_od n d (h'.1 d hd), by omega⟩
  | n + 1, .int i, h => rfl
  | n + 1, .str x, h => by
    have h' : SeqAt.shaped (.str x) = true ∧ x.length ≤ 100 := by simpa [innd] using h
    exact h'.1
  | n + 1, .non, h => by cases h
  | n + 1, .bl _, h => by cases h
  | n + 1, .lst _, h => by cases h
  | n + 1, .wls _, h => by cases h
  | n + 1, .loc _, h => by cases h
  | n + 1, .gl _, h => by cases h
  | n + 1, .ty _, h => by cases h
  | n + 1, .dic _ _, h => by cases h
/-! texts -/
theorem sh_strOk {x : Str} : SeqAt.shaped (.str x) = x.cps.all (· < 0x110000) := by
  simp [SeqAt.shaped, PyData.canLay0, PyData.depth, PyData.strOk]
theorem sh_ofString (s : String) : SeqAt.shaped (.str (PySem.Str.ofString s)) = true := by
  rw [sh_strOk, PySem.Str.ofString_eq_toList]
  simp
  intro c _
  have := c.valid
  unfold Char.toNat
  rcases this with h | h
  · exact Nat.lt_trans h (by decide)
  · exact h.2
theorem sh_append {x y : Str} (h1 : SeqAt.shaped (.str x) = true) (h2 : SeqAt.shaped (.str y) = true) : SeqAt.shaped (.str (x ++ y)) = true := by
  rw [sh_strOk] at *
  show (x.cps ++ y.cps).all _ = true
  rw [Array.all_append, h1, h2]
  rfl
theorem sh_cut {x : Str} {lo hi : Option Int} (h : SeqAt.shaped (.str x) = true) : SeqAt.shaped (.str (cutS x lo hi)) = true := by
  rw [sh_strOk] at *
  unfold cutS
  simp at h ⊢
  intro c hc
  have := List.mem_of_mem_drop (List.mem_of_mem_take hc)
  obtain ⟨i, hi, e⟩ := List.getElem_of_mem this
  have := h i (by simpa using hi)
  simp at e
  omega
theorem sh_toString (i : Int) : SeqAt.shaped (.str (toString i : String)) = true := sh_ofString _
def tn : D → String
  | .non => "NoneType"
  | .bl _ => "bool"
  | .int _ => "int"
  | .str _ => "str"
  | .tup _ => "tuple"
  | .lst _ => "list"
  | .dic _ _ => "dict"
  | _ => ""
theorem od_tyn {S : Sto} {d : D} (h : od d = true) : d.tyn S = some (tn d) := by
  cases d <;> first | rfl | cases h
theorem od_isi {S : Sto} {d : D} {b : String} (h : od d = true) (hb : askTys.contains b = true) : isiD S [d, .ty b] = some (.bl (isiB (tn d) b)) := by
  simp [isiD, od_tyn h]
  simpa using hb
theorem od_isi2 {S : Sto} {d : D} {b c : String} (h : od d = true) (hb : askTys.contains b = true) (hc : askTys.contains c = true) : isiD S [d, .tup [.ty b, .ty c]] = some (.bl (isiB (tn d) b || isiB (tn d) c)) := by
  have hb' : b ∈ askTys := by simpa using hb
  have hc' : c ∈ askTys := by simpa using hc
  simp [isiD, hb', hc', od_tyn h]
def isI : D → Bool
  | .int _ => true
  | _ => false
def btw (lo hi : Int) : D → Bool
  | .int x => decide (lo ≤ x ∧ x ≤ hi)
  | _ => false
def frm (lo : Int) : D → Bool
  | .int x => decide (lo ≤ x)
  | _ => false
end Mi

namespace K35
open PySem PySem.Spec PyProof.Rows L2 Mi
def top (i : Nat) : Stmt := PySem.Challenge.pw_everyscale_k35_numbers_that_claims_hold.main.body.getD i (.Pass ⟨0, 0, 0, 0⟩)
abbrev st_is_int : Stmt := top 5
abbrev st_is_from : Stmt := top 6
abbrev st_is_between : Stmt := top 7
abbrev st_is_tuple : Stmt := top 8
abbrev st_is_word : Stmt := top 9
abbrev st_need_number : Stmt := top 10
abbrev st_is_claim_value : Stmt := top 15
abbrev st_is_book_value : Stmt := top 16
abbrev st_need_book : Stmt := top 17
abbrev st_last_of : Stmt := top 18
abbrev st_does_hold : Stmt := top 19
abbrev st_part_and_share : Stmt := top 20
abbrev st_common_start : Stmt := top 21
abbrev st_least_common : Stmt := top 22
abbrev st_clash_of : Stmt := top 23
abbrev st_is_book : Stmt := top 27
abbrev st_find : Stmt := top 28
abbrev st_judge_book : Stmt := top 29
abbrev st_book_holds : Stmt := top 30
abbrev st__law_deck : Stmt := top 32
abbrev st__law_draw : Stmt := top 33
abbrev st__law_pick : Stmt := top 34
abbrev st__law_euclid : Stmt := top 35
abbrev st__law_common : Stmt := top 36
abbrev st__law_holds : Stmt := top 37
abbrev st__law_same : Stmt := top 38
abbrev st__law_shuffled : Stmt := top 39
abbrev st__law_odd : Stmt := top 40
abbrev st__law_bent : Stmt := top 41
abbrev st__law_dart : Stmt := top 42
abbrev st__law_claim : Stmt := top 43
abbrev st__law_meeting : Stmt := top 44
abbrev st__law_woven : Stmt := top 45
abbrev st__law_book : Stmt := top 46
abbrev st__law_is_integer : Stmt := top 47
abbrev st__law_is_book : Stmt := top 48
abbrev st__law_clashes : Stmt := top 49
abbrev st__law_is_paper : Stmt := top 50
abbrev st__law_near : Stmt := top 51
abbrev st__law_is_found_right : Stmt := top 52
abbrev st_law : Stmt := top 53
structure Fx (K : PySem.W.Frag) (mg : Str → Option Value) : Prop where
  g_is_int : ∃ f fd, Got K mg "is_int" st_is_int f fd
  g_is_from : ∃ f fd, Got K mg "is_from" st_is_from f fd
  g_is_between : ∃ f fd, Got K mg "is_between" st_is_between f fd
  g_is_tuple : ∃ f fd, Got K mg "is_tuple" st_is_tuple f fd
  g_is_word : ∃ f fd, Got K mg "is_word" st_is_word f fd
  g_need_number : ∃ f fd, Got K mg "need_number" st_need_number f fd
  g_is_claim_value : ∃ f fd, Got K mg "is_claim_value" st_is_claim_value f fd
  g_is_book_value : ∃ f fd, Got K mg "is_book_value" st_is_book_value f fd
  g_need_book : ∃ f fd, Got K mg "need_book" st_need_book f fd
  g_last_of : ∃ f fd, Got K mg "last_of" st_last_of f fd
  g_does_hold : ∃ f fd, Got K mg "does_hold" st_does_hold f fd
  g_part_and_share : ∃ f fd, Got K mg "part_and_share" st_part_and_share f fd
  g_common_start : ∃ f fd, Got K mg "common_start" st_common_start f fd
  g_least_common : ∃ f fd, Got K mg "least_common" st_least_common f fd
  g_clash_of : ∃ f fd, Got K mg "clash_of" st_clash_of f fd
  g_is_book : ∃ f fd, Got K mg "is_book" st_is_book f fd
  g_find : ∃ f fd, Got K mg "find" st_find f fd
  g_judge_book : ∃ f fd, Got K mg "judge_book" st_judge_book f fd
  g_book_holds : ∃ f fd, Got K mg "book_holds" st_book_holds f fd
  g__law_deck : ∃ f fd, Got K mg "_law_deck" st__law_deck f fd
  g__law_draw : ∃ f fd, Got K mg "_law_draw" st__law_draw f fd
  g__law_pick : ∃ f fd, Got K mg "_law_pick" st__law_pick f fd
  g__law_euclid : ∃ f fd, Got K mg "_law_euclid" st__law_euclid f fd
  g__law_common : ∃ f fd, Got K mg "_law_common" st__law_common f fd
  g__law_holds : ∃ f fd, Got K mg "_law_holds" st__law_holds f fd
  g__law_same : ∃ f fd, Got K mg "_law_same" st__law_same f fd
  g__law_shuffled : ∃ f fd, Got K mg "_law_shuffled" st__law_shuffled f fd
  g__law_odd : ∃ f fd, Got K mg "_law_odd" st__law_odd f fd
  g__law_bent : ∃ f fd, Got K mg "_law_bent" st__law_bent f fd
  g__law_dart : ∃ f fd, Got K mg "_law_dart" st__law_dart f fd
  g__law_claim : ∃ f fd, Got K mg "_law_claim" st__law_claim f fd
  g__law_meeting : ∃ f fd, Got K mg "_law_meeting" st__law_meeting f fd
  g__law_woven : ∃ f fd, Got K mg "_law_woven" st__law_woven f fd
  g__law_book : ∃ f fd, Got K mg "_law_book" st__law_book f fd
  g__law_is_integer : ∃ f fd, Got K mg "_law_is_integer" st__law_is_integer f fd
  g__law_is_book : ∃ f fd, Got K mg "_law_is_book" st__law_is_book f fd
  g__law_clashes : ∃ f fd, Got K mg "_law_clashes" st__law_clashes f fd
  g__law_is_paper : ∃ f fd, Got K mg "_law_is_paper" st__law_is_paper f fd
  g__law_near : ∃ f fd, Got K mg "_law_near" st__law_near f fd
  g__law_is_found_right : ∃ f fd, Got K mg "_law_is_found_right" st__law_is_found_right f fd
  g_law : ∃ f fd, Got K mg "law" st_law f fd
  n_all : mg "all" = none
  n_bool : mg "bool" = none
  n_enumerate : mg "enumerate" = none
  n_int : mg "int" = none
  n_isinstance : mg "isinstance" = none
  n_len : mg "len" = none
  n_list : mg "list" = none
  n_max : mg "max" = none
  n_min : mg "min" = none
  n_range : mg "range" = none
  n_sorted : mg "sorted" = none
  n_str : mg "str" = none
  n_tuple : mg "tuple" = none
  n_zip : mg "zip" = none
  v_CLASH : ∃ t, mg "CLASH" = some (.str "clash" t)
  v_CLEAR : ∃ t, mg "CLEAR" = some (.str "clear" t)
  v_MOST_NUMBER : ∃ t, mg "MOST_NUMBER" = some (.int 1000000000 t)
  v_MOST_STEP : ∃ t, mg "MOST_STEP" = some (.int 1000000 t)
  v_MOST_STREET : ∃ t, mg "MOST_STREET" = some (.int 99 t)
theorem bk_find_0_number_street_book : BindKOk "find" st_find ["book", "street", "number"] 0 ["number", "street", "book"] [2, 1, 0] := fun _ _ _ _ _ _ us ws h1 h2 => match us, ws, h1, h2 with | [], [_, _, _], _, _ => rfl
theorem bk_judge_book_0_book : BindKOk "judge_book" st_judge_book ["book"] 0 ["book"] [0] := fun _ _ _ _ _ _ us ws h1 h2 => match us, ws, h1, h2 with | [], [_], _, _ => rfl
theorem bk_book_holds_0_thing_book : BindKOk "book_holds" st_book_holds ["book", "thing"] 0 ["thing", "book"] [1, 0] := fun _ _ _ _ _ _ us ws h1 h2 => match us, ws, h1, h2 with | [], [_, _], _, _ => rfl
theorem bk_is_book_0_thing : BindKOk "is_book" st_is_book ["thing"] 0 ["thing"] [0] := fun _ _ _ _ _ _ us ws h1 h2 => match us, ws, h1, h2 with | [], [_], _, _ => rfl
section
variable {P : Program} {w : World} {K : PySem.W.Frag} {mg : Str → Option Value} {base : Heap}
abbrev N_is_int : List Str := ["thing"]
theorem sc_is_int : FnScope N_is_int ["thing"] (defScope st_is_int) := ⟨rfl, rfl, rfl, by decide +kernel, rfl, by decide +kernel, by decide +kernel⟩
theorem bd_is_int : BindOk "is_int" st_is_int ["thing"] := fun _ _ _ _ _ _ us hl => match us, hl with | [_], _ => rfl
noncomputable def b_is_int : SM :=
      (sRet (mAnd (mB isiD (aCons (mVar 0) (aCons (mC (.ty "int")) aNil))) (mNot (mB isiD (aCons (mVar 0) (aCons (mC (.ty "bool")) aNil))))))
noncomputable def m_is_int : FM := fnP N_is_int.length b_is_int
theorem ok_is_int (c : Fx K mg) : FD P w K mg base "is_int" st_is_int ["thing"] 1 m_is_int := by
    obtain ⟨f, fd, G⟩ := c.g_is_int
    refine (fd_mk (k := 0) G sc_is_int fun X W cdv A outer s H E eX eW tk hp hr => ?_)
    have hu := hr.units
    have hu65 : X.A.units + 65 < cLine := by have := hr.un; omega
    have hu1 : X.A.units + 1 < cLine := by have := hr.un; omega
    have nd := sc_is_int.nd
    subst eX
    exact (b_one (s_ret (d_and (d_B (cD_isi) (by rfl) c.n_isinstance bt_isinstance (a_cons (d_var (i := 0) rfl (Or.inl rfl)) (a_cons (d_ty (by rfl) c.n_int bt_int) a_nil))) (d_one (d_not (d_B (cD_isi) (by rfl) c.n_isinstance bt_isinstance (a_cons (d_var (i := 0) rfl (Or.inl rfl)) (a_cons (d_ty (by rfl) c.n_bool bt_bool) a_nil))))))))

abbrev N_is_from : List Str := ["thing", "least"]
theorem sc_is_from : FnScope N_is_from ["thing", "least"] (defScope st_is_from) := ⟨rfl, rfl, rfl, by decide +kernel, rfl, by decide +kernel, by decide +kernel⟩
theorem bd_is_from : BindOk "is_from" st_is_from ["thing", "least"] := fun _ _ _ _ _ _ us hl => match us, hl with | [_, _], _ => rfl
noncomputable def b_is_from : SM :=
      (sRet (mAnd (mCall 1 m_is_int (aCons (mVar 0) aNil)) (mOp geD (mVar 0) (mVar 1))))
noncomputable def m_is_from : FM := fnP N_is_from.length b_is_from
theorem ok_is_from (c : Fx K mg) : FD P w K mg base "is_from" st_is_from ["thing", "least"] 2 m_is_from := by
    obtain ⟨f, fd, G⟩ := c.g_is_from
    refine (fd_mk (k := 1) G sc_is_from fun X W cdv A outer s H E eX eW tk hp hr => ?_)
    have hu := hr.units
    have hu65 : X.A.units + 65 < cLine := by have := hr.un; omega
    have hu1 : X.A.units + 1 < cLine := by have := hr.un; omega
    have nd := sc_is_from.nd
    subst eX
    exact (b_one (s_ret (d_and (d_call (ok_is_int c) bd_is_int (hr.mono (by decide)) rfl tk (a_cons (d_var (i := 0) rfl (Or.inl rfl)) a_nil)) (d_one (d_cmp opD_ge (d_var (i := 0) rfl (Or.inl rfl)) (d_var (i := 1) rfl (Or.inl rfl)) rfl)))))

abbrev N_is_between : List Str := ["thing", "least", "most"]
theorem sc_is_between : FnScope N_is_between ["thing", "least", "most"] (defScope st_is_between) := ⟨rfl, rfl, rfl, by decide +kernel, rfl, by decide +kernel, by decide +kernel⟩
theorem bd_is_between : BindOk "is_between" st_is_between ["thing", "least", "most"] := fun _ _ _ _ _ _ us hl => match us, hl with | [_, _, _], _ => rfl
noncomputable def b_is_between : SM :=
      (sRet (mAnd (mCall 1 m_is_int (aCons (mVar 0) aNil)) (mChain leD leD (mVar 1) (mVar 0) (mVar 2))))
noncomputable def m_is_between : FM := fnP N_is_between.length b_is_between
theorem ok_is_between (c : Fx K mg) : FD P w K mg base "is_between" st_is_between ["thing", "least", "most"] 2 m_is_between := by
    obtain ⟨f, fd, G⟩ := c.g_is_between
    refine (fd_mk (k := 1) G sc_is_between fun X W cdv A outer s H E eX eW tk hp hr => ?_)
    have hu := hr.units
    have hu65 : X.A.units + 65 < cLine := by have := hr.un; omega
    have hu1 : X.A.units + 1 < cLine := by have := hr.un; omega
    have nd := sc_is_between.nd
    subst eX
    exact (b_one (s_ret (d_and (d_call (ok_is_int c) bd_is_int (hr.mono (by decide)) rfl tk (a_cons (d_var (i := 0) rfl (Or.inl rfl)) a_nil)) (d_one (d_chain opD_le opD_le (d_var (i := 1) rfl (Or.inl rfl)) (d_var (i := 0) rfl (Or.inl rfl)) (d_var (i := 2) rfl (Or.inl rfl)))))))

abbrev N_is_tuple : List Str := ["thing", "many"]
theorem sc_is_tuple : FnScope N_is_tuple ["thing", "many"] (defScope st_is_tuple) := ⟨rfl, rfl, rfl, by decide +kernel, rfl, by decide +kernel, by decide +kernel⟩
theorem bd_is_tuple : BindOk "is_tuple" st_is_tuple ["thing", "many"] := fun _ _ _ _ _ _ us hl => match us, hl with | [_, _], _ => rfl
noncomputable def b_is_tuple : SM :=
      (sRet (mAnd (mB isiD (aCons (mVar 0) (aCons (mC (.ty "tuple")) aNil))) (mOp eqD (mB lenD (aCons (mVar 0) aNil)) (mVar 1))))
noncomputable def m_is_tuple : FM := fnP N_is_tuple.length b_is_tuple
theorem ok_is_tuple (c : Fx K mg) : FD P w K mg base "is_tuple" st_is_tuple ["thing", "many"] 1 m_is_tuple := by
    obtain ⟨f, fd, G⟩ := c.g_is_tuple
    refine (fd_mk (k := 0) G sc_is_tuple fun X W cdv A outer s H E eX eW tk hp hr => ?_)
    have hu := hr.units
    have hu65 : X.A.units + 65 < cLine := by have := hr.un; omega
    have hu1 : X.A.units + 1 < cLine := by have := hr.un; omega
    have nd := sc_is_tuple.nd
    subst eX
    exact (b_one (s_ret (d_and (d_B (cD_isi) (by rfl) c.n_isinstance bt_isinstance (a_cons (d_var (i := 0) rfl (Or.inl rfl)) (a_cons (d_ty (by rfl) c.n_tuple bt_tuple) a_nil))) (d_one (d_cmp (opD_eq hu) (d_B (cD_len) (by rfl) c.n_len bt_len (a_cons (d_var (i := 0) rfl (Or.inl rfl)) a_nil)) (d_var (i := 1) rfl (Or.inl rfl)) rfl)))))

abbrev N_is_word : List Str := ["thing", "words"]
theorem sc_is_word : FnScope N_is_word ["thing", "words"] (defScope st_is_word) := ⟨rfl, rfl, rfl, by decide +kernel, rfl, by decide +kernel, by decide +kernel⟩
theorem bd_is_word : BindOk "is_word" st_is_word ["thing", "words"] := fun _ _ _ _ _ _ us hl => match us, hl with | [_, _], _ => rfl
noncomputable def b_is_word : SM :=
      (sRet (mAnd (mB isiD (aCons (mVar 0) (aCons (mC (.ty "str")) aNil))) (mOp inD (mVar 0) (mVar 1))))
noncomputable def m_is_word : FM := fnP N_is_word.length b_is_word
theorem ok_is_word (c : Fx K mg) : FD P w K mg base "is_word" st_is_word ["thing", "words"] 1 m_is_word := by
    obtain ⟨f, fd, G⟩ := c.g_is_word
    refine (fd_mk (k := 0) G sc_is_word fun X W cdv A outer s H E eX eW tk hp hr => ?_)
    have hu := hr.units
    have hu65 : X.A.units + 65 < cLine := by have := hr.un; omega
    have hu1 : X.A.units + 1 < cLine := by have := hr.un; omega
    have nd := sc_is_word.nd
    subst eX
    exact (b_one (s_ret (d_and (d_B (cD_isi) (by rfl) c.n_isinstance bt_isinstance (a_cons (d_var (i := 0) rfl (Or.inl rfl)) (a_cons (d_ty (by rfl) c.n_str bt_str) a_nil))) (d_one (d_cmp (opD_in hu65) (d_var (i := 0) rfl (Or.inl rfl)) (d_var (i := 1) rfl (Or.inl rfl)) rfl)))))

abbrev N_need_number : List Str := ["thing", "is_right"]
theorem sc_need_number : FnScope N_need_number ["thing", "is_right"] (defScope st_need_number) := ⟨rfl, rfl, rfl, by decide +kernel, rfl, by decide +kernel, by decide +kernel⟩
theorem bd_need_number : BindOk "need_number" st_need_number ["thing", "is_right"] := fun _ _ _ _ _ _ us hl => match us, hl with | [_, _], _ => rfl
noncomputable def b_need_number : SM :=
      (sIf (bNot (bVal (mVar 1))) sBad sNil)
noncomputable def m_need_number : FM := fnP N_need_number.length b_need_number
theorem ok_need_number (c : Fx K mg) : FD P w K mg base "need_number" st_need_number ["thing", "is_right"] 1 m_need_number := by
    obtain ⟨f, fd, G⟩ := c.g_need_number
    refine (fd_mk (k := 0) G sc_need_number fun X W cdv A outer s H E eX eW tk hp hr => ?_)
    have hu := hr.units
    have hu65 : X.A.units + 65 < cLine := by have := hr.un; omega
    have hu1 : X.A.units + 1 < cLine := by have := hr.un; omega
    have nd := sc_need_number.nd
    subst eX
    exact (b_one (s_if (t_not (t_val (d_var (i := 1) rfl (Or.inl rfl)))) (b_one s_bad) b_nil))

abbrev N_is_claim_value : List Str := ["thing"]
theorem sc_is_claim_value : FnScope N_is_claim_value ["thing"] (defScope st_is_claim_value) := ⟨rfl, rfl, rfl, by decide +kernel, rfl, by decide +kernel, by decide +kernel⟩
theorem bd_is_claim_value : BindOk "is_claim_value" st_is_claim_value ["thing"] := fun _ _ _ _ _ _ us hl => match us, hl with | [_], _ => rfl
noncomputable def b_is_claim_value : SM :=
      (sSeq (sIf (bOr (bNot (bVal (mCall 2 m_is_tuple (aCons (mVar 0) (aCons (mC (.int 5)) aNil))))) (bOr (bNot (bVal (mCall 3 m_is_between (aCons (mOp ixD (mVar 0) (mC (.int 0))) (aCons (mC (.int 0)) (aCons (mC (.int 99)) aNil)))))) (bNot (bVal (mCall 3 m_is_between (aCons (mOp ixD (mVar 0) (mC (.int 1))) (aCons (mC (.int 0)) (aCons (mC (.int 1000000000)) aNil)))))))) (sRet (mC (.bl false))) sNil)
      (sRet (mAnd (mCall 3 m_is_between (aCons (mOp ixD (mVar 0) (mC (.int 2))) (aCons (mC (.int 1)) (aCons (mC (.int 1000000000)) aNil)))) (mAnd (mCall 3 m_is_between (aCons (mOp ixD (mVar 0) (mC (.int 3))) (aCons (mC (.int 1)) (aCons (mC (.int 1000000)) aNil)))) (mCall 2 m_is_from (aCons (mOp ixD (mVar 0) (mC (.int 4))) (aCons (mC (.int 0)) aNil)))))))
noncomputable def m_is_claim_value : FM := fnP N_is_claim_value.length b_is_claim_value
theorem ok_is_claim_value (c : Fx K mg) : FD P w K mg base "is_claim_value" st_is_claim_value ["thing"] 3 m_is_claim_value := by
    obtain ⟨f, fd, G⟩ := c.g_is_claim_value
    refine (fd_mk (k := 2) G sc_is_claim_value fun X W cdv A outer s H E eX eW tk hp hr => ?_)
    have hu := hr.units
    have hu65 : X.A.units + 65 < cLine := by have := hr.un; omega
    have hu1 : X.A.units + 1 < cLine := by have := hr.un; omega
    have nd := sc_is_claim_value.nd
    subst eX
    exact (b_cons (s_if (t_bool (w_or (t_not (t_val (d_call (ok_is_tuple c) bd_is_tuple (hr.mono (by decide)) rfl tk (a_cons (d_var (i := 0) rfl (Or.inl rfl)) (a_cons d_int a_nil))))) (w_or (t_not (t_val (d_call (ok_is_between c) bd_is_between (hr.mono (by decide)) rfl tk (a_cons (d_ix hu1 (d_var (i := 0) rfl (Or.inl rfl)) d_int (fun _ _ => rfl)) (a_cons d_int (a_cons (d_gint (by rfl) c.v_MOST_STREET) a_nil)))))) (w_or1 (t_not (t_val (d_call (ok_is_between c) bd_is_between (hr.mono (by decide)) rfl tk (a_cons (d_ix hu1 (d_var (i := 0) rfl (Or.inl rfl)) d_int (fun _ _ => rfl)) (a_cons d_int (a_cons (d_gint (by rfl) c.v_MOST_NUMBER) a_nil)))))))))) (b_one (s_ret d_bl)) b_nil)
      (b_one (s_ret (d_and (d_call (ok_is_between c) bd_is_between (hr.mono (by decide)) rfl tk (a_cons (d_ix hu1 (d_var (i := 0) rfl (Or.inl rfl)) d_int (fun _ _ => rfl)) (a_cons d_int (a_cons (d_gint (by rfl) c.v_MOST_NUMBER) a_nil)))) (d_and (d_call (ok_is_between c) bd_is_between (hr.mono (by decide)) rfl tk (a_cons (d_ix hu1 (d_var (i := 0) rfl (Or.inl rfl)) d_int (fun _ _ => rfl)) (a_cons d_int (a_cons (d_gint (by rfl) c.v_MOST_STEP) a_nil)))) (d_one (d_call (ok_is_from c) bd_is_from (hr.mono (by decide)) rfl tk (a_cons (d_ix hu1 (d_var (i := 0) rfl (Or.inl rfl)) d_int (fun _ _ => rfl)) (a_cons d_int a_nil)))))))))

abbrev N_is_book_value : List Str := ["thing", "item"]
theorem sc_is_book_value : FnScope N_is_book_value ["thing"] (defScope st_is_book_value) := ⟨rfl, rfl, rfl, by decide +kernel, rfl, by decide +kernel, by decide +kernel⟩
theorem bd_is_book_value : BindOk "is_book_value" st_is_book_value ["thing"] := fun _ _ _ _ _ _ us hl => match us, hl with | [_], _ => rfl
noncomputable def b_is_book_value : SM :=
      (sRet (mAnd (mB isiD (aCons (mVar 0) (aCons (mC (.ty "tuple")) aNil))) (mB allD (aCons (mLc (iSeq (mVar 0)) (gN 1) bYes (mCall 1 m_is_claim_value (aCons (mVar 1) aNil)) [1]) aNil))))
noncomputable def m_is_book_value : FM := fnP N_is_book_value.length b_is_book_value
theorem ok_is_book_value (c : Fx K mg) : FD P w K mg base "is_book_value" st_is_book_value ["thing"] 4 m_is_book_value := by
    obtain ⟨f, fd, G⟩ := c.g_is_book_value
    refine (fd_mk (k := 3) G sc_is_book_value fun X W cdv A outer s H E eX eW tk hp hr => ?_)
    have hu := hr.units
    have hu65 : X.A.units + 65 < cLine := by have := hr.un; omega
    have hu1 : X.A.units + 1 < cLine := by have := hr.un; omega
    have nd := sc_is_book_value.nd
    subst eX
    exact (b_one (s_ret (d_and (d_B (cD_isi) (by rfl) c.n_isinstance bt_isinstance (a_cons (d_var (i := 0) rfl (Or.inl rfl)) (a_cons (d_ty (by rfl) c.n_tuple bt_tuple) a_nil))) (d_one (d_B (cD_all rfl) (by rfl) c.n_all bt_all (a_cons (d_lc rfl nd (i_seq (d_var (i := 0) rfl (Or.inl rfl))) (blkOk_by (own := [("item", 1)]) (by kernel_rfl)) (by decide) (fun s H C cl fp => (g_name nd (i := 1) rfl (Or.inl rfl) (Or.inr rfl))) (fun s H C cl fp => ts_nil) (fun s H C cl fp => (d_call (ok_is_claim_value c) bd_is_claim_value (hr.mono (by decide)) rfl takesW0 (a_cons (d_var (i := 1) rfl (Or.inl rfl)) a_nil)))) a_nil))))))

abbrev N_need_book : List Str := ["thing"]
theorem sc_need_book : FnScope N_need_book ["thing"] (defScope st_need_book) := ⟨rfl, rfl, rfl, by decide +kernel, rfl, by decide +kernel, by decide +kernel⟩
theorem bd_need_book : BindOk "need_book" st_need_book ["thing"] := fun _ _ _ _ _ _ us hl => match us, hl with | [_], _ => rfl
noncomputable def b_need_book : SM :=
      (sIf (bNot (bVal (mCall 1 m_is_book_value (aCons (mVar 0) aNil)))) sBad sNil)
noncomputable def m_need_book : FM := fnP N_need_book.length b_need_book
theorem ok_need_book (c : Fx K mg) : FD P w K mg base "need_book" st_need_book ["thing"] 5 m_need_book := by
    obtain ⟨f, fd, G⟩ := c.g_need_book
    refine (fd_mk (k := 4) G sc_need_book fun X W cdv A outer s H E eX eW tk hp hr => ?_)
    have hu := hr.units
    have hu65 : X.A.units + 65 < cLine := by have := hr.un; omega
    have hu1 : X.A.units + 1 < cLine := by have := hr.un; omega
    have nd := sc_need_book.nd
    subst eX
    exact (b_one (s_if (t_not (t_val (d_call (ok_is_book_value c) bd_is_book_value (hr.mono (by decide)) rfl tk (a_cons (d_var (i := 0) rfl (Or.inl rfl)) a_nil)))) (b_one s_bad) b_nil))

abbrev N_last_of : List Str := ["claim"]
theorem sc_last_of : FnScope N_last_of ["claim"] (defScope st_last_of) := ⟨rfl, rfl, rfl, by decide +kernel, rfl, by decide +kernel, by decide +kernel⟩
theorem bd_last_of : BindOk "last_of" st_last_of ["claim"] := fun _ _ _ _ _ _ us hl => match us, hl with | [_], _ => rfl
noncomputable def b_last_of : SM :=
      (sRet (mOp addD (mOp ixD (mVar 0) (mC (.int 1))) (mOp mulD (mOp subD (mOp ixD (mVar 0) (mC (.int 2))) (mC (.int 1))) (mOp ixD (mVar 0) (mC (.int 3))))))
noncomputable def m_last_of : FM := fnP N_last_of.length b_last_of
theorem ok_last_of (c : Fx K mg) : FD P w K mg base "last_of" st_last_of ["claim"] 1 m_last_of := by
    obtain ⟨f, fd, G⟩ := c.g_last_of
    refine (fd_mk (k := 0) G sc_last_of fun X W cdv A outer s H E eX eW tk hp hr => ?_)
    have hu := hr.units
    have hu65 : X.A.units + 65 < cLine := by have := hr.un; omega
    have hu1 : X.A.units + 1 < cLine := by have := hr.un; omega
    have nd := sc_last_of.nd
    subst eX
    exact (b_one (s_ret (d_bin opD_add (d_ix hu1 (d_var (i := 0) rfl (Or.inl rfl)) d_int (fun _ _ => rfl)) (d_bin opD_mul (d_bin opD_sub (d_ix hu1 (d_var (i := 0) rfl (Or.inl rfl)) d_int (fun _ _ => rfl)) d_int) (d_ix hu1 (d_var (i := 0) rfl (Or.inl rfl)) d_int (fun _ _ => rfl))))))

abbrev N_does_hold : List Str := ["claim", "number"]
theorem sc_does_hold : FnScope N_does_hold ["claim", "number"] (defScope st_does_hold) := ⟨rfl, rfl, rfl, by decide +kernel, rfl, by decide +kernel, by decide +kernel⟩
theorem bd_does_hold : BindOk "does_hold" st_does_hold ["claim", "number"] := fun _ _ _ _ _ _ us hl => match us, hl with | [_, _], _ => rfl
noncomputable def b_does_hold : SM :=
      (sRet (mAnd (mChain leD leD (mOp ixD (mVar 0) (mC (.int 1))) (mVar 1) (mCall 1 m_last_of (aCons (mVar 0) aNil))) (mOp eqD (mOp modD (mOp subD (mVar 1) (mOp ixD (mVar 0) (mC (.int 1)))) (mOp ixD (mVar 0) (mC (.int 3)))) (mC (.int 0)))))
noncomputable def m_does_hold : FM := fnP N_does_hold.length b_does_hold
theorem ok_does_hold (c : Fx K mg) : FD P w K mg base "does_hold" st_does_hold ["claim", "number"] 2 m_does_hold := by
    obtain ⟨f, fd, G⟩ := c.g_does_hold
    refine (fd_mk (k := 1) G sc_does_hold fun X W cdv A outer s H E eX eW tk hp hr => ?_)
    have hu := hr.units
    have hu65 : X.A.units + 65 < cLine := by have := hr.un; omega
    have hu1 : X.A.units + 1 < cLine := by have := hr.un; omega
    have nd := sc_does_hold.nd
    subst eX
    exact (b_one (s_ret (d_and (d_chain opD_le opD_le (d_ix hu1 (d_var (i := 0) rfl (Or.inl rfl)) d_int (fun _ _ => rfl)) (d_var (i := 1) rfl (Or.inl rfl)) (d_call (ok_last_of c) bd_last_of (hr.mono (by decide)) rfl tk (a_cons (d_var (i := 0) rfl (Or.inl rfl)) a_nil))) (d_one (d_cmp (opD_eq hu) (d_bin opD_mod (d_bin opD_sub (d_var (i := 1) rfl (Or.inl rfl)) (d_ix hu1 (d_var (i := 0) rfl (Or.inl rfl)) d_int (fun _ _ => rfl))) (d_ix hu1 (d_var (i := 0) rfl (Or.inl rfl)) d_int (fun _ _ => rfl))) d_int rfl)))))

abbrev N_part_and_share : List Str := ["one", "other", "near", "share", "far", "far_share", "times"]
theorem sc_part_and_share : FnScope N_part_and_share ["one", "other"] (defScope st_part_and_share) := ⟨rfl, rfl, rfl, by decide +kernel, rfl, by decide +kernel, by decide +kernel⟩
theorem bd_part_and_share : BindOk "part_and_share" st_part_and_share ["one", "other"] := fun _ _ _ _ _ _ us hl => match us, hl with | [_, _], _ => rfl
noncomputable def b_part_and_share : SM :=
      (sSeq (sAsg (mTup (aCons (mTup (aCons (mVar 0) (aCons (mC (.int 1)) aNil))) (aCons (mTup (aCons (mVar 1) (aCons (mC (.int 0)) aNil))) aNil))) (gT [(gT [(gN 2), (gN 3)]), (gT [(gN 4), (gN 5)])]))
      (sSeq (sWhile (bVal (mOp neD (mVar 4) (mC (.int 0)))) (sSeq (sAsg (mOp fdivD (mVar 2) (mVar 4)) (gN 6))
      (sAsg (mTup (aCons (mTup (aCons (mVar 4) (aCons (mVar 5) aNil))) (aCons (mTup (aCons (mOp subD (mVar 2) (mOp mulD (mVar 6) (mVar 4))) (aCons (mOp subD (mVar 3) (mOp mulD (mVar 6) (mVar 5))) aNil))) aNil))) (gT [(gT [(gN 2), (gN 3)]), (gT [(gN 4), (gN 5)])]))))
      (sRet (mTup (aCons (mVar 2) (aCons (mVar 3) aNil))))))
noncomputable def m_part_and_share : FM := fnP N_part_and_share.length b_part_and_share
theorem ok_part_and_share (c : Fx K mg) : FD P w K mg base "part_and_share" st_part_and_share ["one", "other"] 1 m_part_and_share := by
    obtain ⟨f, fd, G⟩ := c.g_part_and_share
    refine (fd_mk (k := 0) G sc_part_and_share fun X W cdv A outer s H E eX eW tk hp hr => ?_)
    have hu := hr.units
    have hu65 : X.A.units + 65 < cLine := by have := hr.un; omega
    have hu1 : X.A.units + 1 < cLine := by have := hr.un; omega
    have nd := sc_part_and_share.nd
    subst eX
    exact (b_cons (s_asg (d_tup (a_cons (d_tup (a_cons (d_var (i := 0) rfl (Or.inl rfl)) (a_cons d_int a_nil))) (a_cons (d_tup (a_cons (d_var (i := 1) rfl (Or.inl rfl)) (a_cons d_int a_nil))) a_nil))) (g_tup rfl (gs_cons (g_tup rfl (gs_cons (g_name nd (i := 2) rfl (Or.inl rfl) (Or.inr rfl)) (gs_cons (g_name nd (i := 3) rfl (Or.inl rfl) (Or.inr rfl)) gs_nil))) (gs_cons (g_tup rfl (gs_cons (g_name nd (i := 4) rfl (Or.inl rfl) (Or.inr rfl)) (gs_cons (g_name nd (i := 5) rfl (Or.inl rfl) (Or.inr rfl)) gs_nil))) gs_nil))))
      (b_cons (s_while hp (t_cmp (opD_ne hu) (d_var (i := 4) rfl (Or.inl rfl)) d_int rfl) (b_cons (s_set nd (i := 6) rfl (Or.inl rfl) (Or.inr rfl) (d_bin opD_fdiv (d_var (i := 2) rfl (Or.inl rfl)) (d_var (i := 4) rfl (Or.inl rfl))))
      (b_one (s_asg (d_tup (a_cons (d_tup (a_cons (d_var (i := 4) rfl (Or.inl rfl)) (a_cons (d_var (i := 5) rfl (Or.inl rfl)) a_nil))) (a_cons (d_tup (a_cons (d_bin opD_sub (d_var (i := 2) rfl (Or.inl rfl)) (d_bin opD_mul (d_var (i := 6) rfl (Or.inl rfl)) (d_var (i := 4) rfl (Or.inl rfl)))) (a_cons (d_bin opD_sub (d_var (i := 3) rfl (Or.inl rfl)) (d_bin opD_mul (d_var (i := 6) rfl (Or.inl rfl)) (d_var (i := 5) rfl (Or.inl rfl)))) a_nil))) a_nil))) (g_tup rfl (gs_cons (g_tup rfl (gs_cons (g_name nd (i := 2) rfl (Or.inl rfl) (Or.inr rfl)) (gs_cons (g_name nd (i := 3) rfl (Or.inl rfl) (Or.inr rfl)) gs_nil))) (gs_cons (g_tup rfl (gs_cons (g_name nd (i := 4) rfl (Or.inl rfl) (Or.inr rfl)) (gs_cons (g_name nd (i := 5) rfl (Or.inl rfl) (Or.inr rfl)) gs_nil))) gs_nil)))))))
      (b_one (s_ret (d_tup (a_cons (d_var (i := 2) rfl (Or.inl rfl)) (a_cons (d_var (i := 3) rfl (Or.inl rfl)) a_nil)))))))

abbrev N_common_start : List Str := ["one", "other", "part", "share", "apart", "times"]
theorem sc_common_start : FnScope N_common_start ["one", "other"] (defScope st_common_start) := ⟨rfl, rfl, rfl, by decide +kernel, rfl, by decide +kernel, by decide +kernel⟩
theorem bd_common_start : BindOk "common_start" st_common_start ["one", "other"] := fun _ _ _ _ _ _ us hl => match us, hl with | [_, _], _ => rfl
noncomputable def b_common_start : SM :=
      (sSeq (sAsg (mCall 2 m_part_and_share (aCons (mOp ixD (mVar 0) (mC (.int 3))) (aCons (mOp ixD (mVar 1) (mC (.int 3))) aNil))) (gT [(gN 2), (gN 3)]))
      (sSeq (sAsg (mOp subD (mOp ixD (mVar 1) (mC (.int 1))) (mOp ixD (mVar 0) (mC (.int 1)))) (gN 4))
      (sSeq (sIf (bVal (mOp neD (mOp modD (mVar 4) (mVar 2)) (mC (.int 0)))) (sRet (mC .non)) sNil)
      (sSeq (sAsg (mOp modD (mOp mulD (mOp fdivD (mVar 4) (mVar 2)) (mVar 3)) (mOp fdivD (mOp ixD (mVar 1) (mC (.int 3))) (mVar 2))) (gN 5))
      (sRet (mTup (aCons (mOp addD (mOp ixD (mVar 0) (mC (.int 1))) (mOp mulD (mOp ixD (mVar 0) (mC (.int 3))) (mVar 5))) (aCons (mOp mulD (mOp fdivD (mOp ixD (mVar 0) (mC (.int 3))) (mVar 2)) (mOp ixD (mVar 1) (mC (.int 3)))) aNil))))))))
noncomputable def m_common_start : FM := fnP N_common_start.length b_common_start
theorem ok_common_start (c : Fx K mg) : FD P w K mg base "common_start" st_common_start ["one", "other"] 2 m_common_start := by
    obtain ⟨f, fd, G⟩ := c.g_common_start
    refine (fd_mk (k := 1) G sc_common_start fun X W cdv A outer s H E eX eW tk hp hr => ?_)
    have hu := hr.units
    have hu65 : X.A.units + 65 < cLine := by have := hr.un; omega
    have hu1 : X.A.units + 1 < cLine := by have := hr.un; omega
    have nd := sc_common_start.nd
    subst eX
    exact (b_cons (s_asg (d_call (ok_part_and_share c) bd_part_and_share (hr.mono (by decide)) rfl tk (a_cons (d_ix hu1 (d_var (i := 0) rfl (Or.inl rfl)) d_int (fun _ _ => rfl)) (a_cons (d_ix hu1 (d_var (i := 1) rfl (Or.inl rfl)) d_int (fun _ _ => rfl)) a_nil))) (g_tup rfl (gs_cons (g_name nd (i := 2) rfl (Or.inl rfl) (Or.inr rfl)) (gs_cons (g_name nd (i := 3) rfl (Or.inl rfl) (Or.inr rfl)) gs_nil))))
      (b_cons (s_set nd (i := 4) rfl (Or.inl rfl) (Or.inr rfl) (d_bin opD_sub (d_ix hu1 (d_var (i := 1) rfl (Or.inl rfl)) d_int (fun _ _ => rfl)) (d_ix hu1 (d_var (i := 0) rfl (Or.inl rfl)) d_int (fun _ _ => rfl))))
      (b_cons (s_if (t_cmp (opD_ne hu) (d_bin opD_mod (d_var (i := 4) rfl (Or.inl rfl)) (d_var (i := 2) rfl (Or.inl rfl))) d_int rfl) (b_one (s_ret d_non)) b_nil)
      (b_cons (s_set nd (i := 5) rfl (Or.inl rfl) (Or.inr rfl) (d_bin opD_mod (d_bin opD_mul (d_bin opD_fdiv (d_var (i := 4) rfl (Or.inl rfl)) (d_var (i := 2) rfl (Or.inl rfl))) (d_var (i := 3) rfl (Or.inl rfl))) (d_bin opD_fdiv (d_ix hu1 (d_var (i := 1) rfl (Or.inl rfl)) d_int (fun _ _ => rfl)) (d_var (i := 2) rfl (Or.inl rfl)))))
      (b_one (s_ret (d_tup (a_cons (d_bin opD_add (d_ix hu1 (d_var (i := 0) rfl (Or.inl rfl)) d_int (fun _ _ => rfl)) (d_bin opD_mul (d_ix hu1 (d_var (i := 0) rfl (Or.inl rfl)) d_int (fun _ _ => rfl)) (d_var (i := 5) rfl (Or.inl rfl)))) (a_cons (d_bin opD_mul (d_bin opD_fdiv (d_ix hu1 (d_var (i := 0) rfl (Or.inl rfl)) d_int (fun _ _ => rfl)) (d_var (i := 2) rfl (Or.inl rfl))) (d_ix hu1 (d_var (i := 1) rfl (Or.inl rfl)) d_int (fun _ _ => rfl))) a_nil)))))))))

abbrev N_least_common : List Str := ["one", "other", "start", "number", "step", "low"]
theorem sc_least_common : FnScope N_least_common ["one", "other"] (defScope st_least_common) := ⟨rfl, rfl, rfl, by decide +kernel, rfl, by decide +kernel, by decide +kernel⟩
theorem bd_least_common : BindOk "least_common" st_least_common ["one", "other"] := fun _ _ _ _ _ _ us hl => match us, hl with | [_, _], _ => rfl
noncomputable def b_least_common : SM :=
      (sSeq (sAsg (mCall 2 m_common_start (aCons (mVar 0) (aCons (mVar 1) aNil))) (gN 2))
      (sSeq (sIf (bVal (mOp isD (mVar 2) (mC .non))) (sRet (mC .non)) sNil)
      (sSeq (sAsg (mVar 2) (gT [(gN 3), (gN 4)]))
      (sSeq (sAsg (mB max2D (aCons (mOp ixD (mVar 0) (mC (.int 1))) (aCons (mOp ixD (mVar 1) (mC (.int 1))) aNil))) (gN 5))
      (sSeq (sAug 3 addID (mOp mulD (mUn negD (mOp fdivD (mOp subD (mVar 3) (mVar 5)) (mVar 4))) (mVar 4)))
      (sRet (mIf (bVal (mOp leD (mVar 3) (mB min2D (aCons (mCall 1 m_last_of (aCons (mVar 0) aNil)) (aCons (mCall 1 m_last_of (aCons (mVar 1) aNil)) aNil))))) (mVar 3) (mC .non))))))))
noncomputable def m_least_common : FM := fnP N_least_common.length b_least_common
theorem ok_least_common (c : Fx K mg) : FD P w K mg base "least_common" st_least_common ["one", "other"] 3 m_least_common := by
    obtain ⟨f, fd, G⟩ := c.g_least_common
    refine (fd_mk (k := 2) G sc_least_common fun X W cdv A outer s H E eX eW tk hp hr => ?_)
    have hu := hr.units
    have hu65 : X.A.units + 65 < cLine := by have := hr.un; omega
    have hu1 : X.A.units + 1 < cLine := by have := hr.un; omega
    have nd := sc_least_common.nd
    subst eX
    exact (b_cons (s_set nd (i := 2) rfl (Or.inl rfl) (Or.inr rfl) (d_call (ok_common_start c) bd_common_start (hr.mono (by decide)) rfl tk (a_cons (d_var (i := 0) rfl (Or.inl rfl)) (a_cons (d_var (i := 1) rfl (Or.inl rfl)) a_nil))))
      (b_cons (s_if (t_cmp opD_is (d_var (i := 2) rfl (Or.inl rfl)) d_non rfl) (b_one (s_ret d_non)) b_nil)
      (b_cons (s_asg (d_var (i := 2) rfl (Or.inl rfl)) (g_tup rfl (gs_cons (g_name nd (i := 3) rfl (Or.inl rfl) (Or.inr rfl)) (gs_cons (g_name nd (i := 4) rfl (Or.inl rfl) (Or.inr rfl)) gs_nil))))
      (b_cons (s_set nd (i := 5) rfl (Or.inl rfl) (Or.inr rfl) (d_B (cD_max2 rfl) (by rfl) c.n_max bt_max (a_cons (d_ix hu1 (d_var (i := 0) rfl (Or.inl rfl)) d_int (fun _ _ => rfl)) (a_cons (d_ix hu1 (d_var (i := 1) rfl (Or.inl rfl)) d_int (fun _ _ => rfl)) a_nil))))
      (b_cons (s_aug nd (i := 3) rfl (Or.inl rfl) (Or.inr rfl) ipD_add (d_bin opD_mul (d_un unD_neg (d_bin opD_fdiv (d_bin opD_sub (d_var (i := 3) rfl (Or.inl rfl)) (d_var (i := 5) rfl (Or.inl rfl))) (d_var (i := 4) rfl (Or.inl rfl)))) (d_var (i := 4) rfl (Or.inl rfl))))
      (b_one (s_ret (d_if (t_cmp opD_le (d_var (i := 3) rfl (Or.inl rfl)) (d_B (cD_min2 rfl) (by rfl) c.n_min bt_min (a_cons (d_call (ok_last_of c) bd_last_of (hr.mono (by decide)) rfl tk (a_cons (d_var (i := 0) rfl (Or.inl rfl)) a_nil)) (a_cons (d_call (ok_last_of c) bd_last_of (hr.mono (by decide)) rfl tk (a_cons (d_var (i := 1) rfl (Or.inl rfl)) a_nil)) a_nil))) rfl) (d_var (i := 3) rfl (Or.inl rfl)) d_non))))))))

abbrev N_clash_of : List Str := ["one", "other"]
theorem sc_clash_of : FnScope N_clash_of ["one", "other"] (defScope st_clash_of) := ⟨rfl, rfl, rfl, by decide +kernel, rfl, by decide +kernel, by decide +kernel⟩
theorem bd_clash_of : BindOk "clash_of" st_clash_of ["one", "other"] := fun _ _ _ _ _ _ us hl => match us, hl with | [_, _], _ => rfl
noncomputable def b_clash_of : SM :=
      (sRet (mIf (bVal (mOp eqD (mOp ixD (mVar 0) (mC (.int 0))) (mOp ixD (mVar 1) (mC (.int 0))))) (mCall 2 m_least_common (aCons (mVar 0) (aCons (mVar 1) aNil))) (mC .non)))
noncomputable def m_clash_of : FM := fnP N_clash_of.length b_clash_of
theorem ok_clash_of (c : Fx K mg) : FD P w K mg base "clash_of" st_clash_of ["one", "other"] 4 m_clash_of := by
    obtain ⟨f, fd, G⟩ := c.g_clash_of
    refine (fd_mk (k := 3) G sc_clash_of fun X W cdv A outer s H E eX eW tk hp hr => ?_)
    have hu := hr.units
    have hu65 : X.A.units + 65 < cLine := by have := hr.un; omega
    have hu1 : X.A.units + 1 < cLine := by have := hr.un; omega
    have nd := sc_clash_of.nd
    subst eX
    exact (b_one (s_ret (d_if (t_cmp (opD_eq hu) (d_ix hu1 (d_var (i := 0) rfl (Or.inl rfl)) d_int (fun _ _ => rfl)) (d_ix hu1 (d_var (i := 1) rfl (Or.inl rfl)) d_int (fun _ _ => rfl)) rfl) (d_call (ok_least_common c) bd_least_common (hr.mono (by decide)) rfl tk (a_cons (d_var (i := 0) rfl (Or.inl rfl)) (a_cons (d_var (i := 1) rfl (Or.inl rfl)) a_nil))) d_non)))

abbrev N_is_book : List Str := ["thing"]
theorem sc_is_book : FnScope N_is_book ["thing"] (defScope st_is_book) := ⟨rfl, rfl, rfl, by decide +kernel, rfl, by decide +kernel, by decide +kernel⟩
theorem bd_is_book : BindOk "is_book" st_is_book ["thing"] := fun _ _ _ _ _ _ us hl => match us, hl with | [_], _ => rfl
noncomputable def b_is_book : SM :=
      (sRet (mCall 1 m_is_book_value (aCons (mVar 0) aNil)))
noncomputable def m_is_book : FM := fnP N_is_book.length b_is_book
theorem ok_is_book (c : Fx K mg) : FD P w K mg base "is_book" st_is_book ["thing"] 5 m_is_book := by
    obtain ⟨f, fd, G⟩ := c.g_is_book
    refine (fd_mk (k := 4) G sc_is_book fun X W cdv A outer s H E eX eW tk hp hr => ?_)
    have hu := hr.units
    have hu65 : X.A.units + 65 < cLine := by have := hr.un; omega
    have hu1 : X.A.units + 1 < cLine := by have := hr.un; omega
    have nd := sc_is_book.nd
    subst eX
    exact (b_one (s_ret (d_call (ok_is_book_value c) bd_is_book_value (hr.mono (by decide)) rfl tk (a_cons (d_var (i := 0) rfl (Or.inl rfl)) a_nil))))

abbrev N_find : List Str := ["book", "street", "number", "at", "claim"]
theorem sc_find : FnScope N_find ["book", "street", "number"] (defScope st_find) := ⟨rfl, rfl, rfl, by decide +kernel, rfl, by decide +kernel, by decide +kernel⟩
theorem bd_find : BindOk "find" st_find ["book", "street", "number"] := fun _ _ _ _ _ _ us hl => match us, hl with | [_, _, _], _ => rfl
noncomputable def b_find : SM :=
      (sSeq (sDrop (mCall 1 m_need_book (aCons (mVar 0) aNil)))
      (sSeq (sDrop (mCall 2 m_need_number (aCons (mVar 1) (aCons (mCall 3 m_is_between (aCons (mVar 1) (aCons (mC (.int 0)) (aCons (mC (.int 99)) aNil)))) aNil))))
      (sSeq (sDrop (mCall 2 m_need_number (aCons (mVar 2) (aCons (mCall 2 m_is_from (aCons (mVar 2) (aCons (mC (.int 0)) aNil))) aNil))))
      (sRet (mB tupleD (aCons (mLc (iEnA (aCons (mVar 0) aNil)) (gT [(gN 3), (gN 4)]) (bAnd (bVal (mOp eqD (mOp ixD (mVar 4) (mC (.int 0))) (mVar 1))) (bVal (mCall 2 m_does_hold (aCons (mVar 4) (aCons (mVar 2) aNil))))) (mVar 3) [3, 4]) aNil))))))
noncomputable def m_find : FM := fnP N_find.length b_find
theorem ok_find (c : Fx K mg) : FD P w K mg base "find" st_find ["book", "street", "number"] 6 m_find := by
    obtain ⟨f, fd, G⟩ := c.g_find
    refine (fd_mk (k := 5) G sc_find fun X W cdv A outer s H E eX eW tk hp hr => ?_)
    have hu := hr.units
    have hu65 : X.A.units + 65 < cLine := by have := hr.un; omega
    have hu1 : X.A.units + 1 < cLine := by have := hr.un; omega
    have nd := sc_find.nd
    subst eX
    exact (b_cons (s_drop (d_call (ok_need_book c) bd_need_book (hr.mono (by decide)) rfl tk (a_cons (d_var (i := 0) rfl (Or.inl rfl)) a_nil)))
      (b_cons (s_drop (d_call (ok_need_number c) bd_need_number (hr.mono (by decide)) rfl tk (a_cons (d_var (i := 1) rfl (Or.inr (Or.inl rfl))) (a_cons (d_call (ok_is_between c) bd_is_between (hr.mono (by decide)) rfl tk (a_cons (d_var (i := 1) rfl (Or.inr (Or.inl rfl))) (a_cons d_int (a_cons (d_gint (by rfl) c.v_MOST_STREET) a_nil)))) a_nil))))
      (b_cons (s_drop (d_call (ok_need_number c) bd_need_number (hr.mono (by decide)) rfl tk (a_cons (d_var (i := 2) rfl (Or.inr (Or.inl rfl))) (a_cons (d_call (ok_is_from c) bd_is_from (hr.mono (by decide)) rfl tk (a_cons (d_var (i := 2) rfl (Or.inr (Or.inl rfl))) (a_cons d_int a_nil))) a_nil))))
      (b_one (s_ret (d_Ty (cD_tuple) (by rfl) c.n_tuple bt_tuple (a_cons (d_lc rfl nd (i_enumA (by rfl) c.n_enumerate (a_cons (d_var (i := 0) rfl (Or.inl rfl)) a_nil)) (blkOk_by (own := [("at", 3), ("claim", 4)]) (by kernel_rfl)) (by decide) (fun s H C cl fp => (g_tup rfl (gs_cons (g_name nd (i := 3) rfl (Or.inl rfl) (Or.inr rfl)) (gs_cons (g_name nd (i := 4) rfl (Or.inl rfl) (Or.inr rfl)) gs_nil)))) (fun s H C cl fp => (ts_one (t_bool (w_and (t_cmp (opD_eq hu) (d_ix hu1 (d_var (i := 4) rfl (Or.inl rfl)) d_int (fun _ _ => rfl)) (d_var (i := 1) rfl (Or.inr (Or.inl rfl))) rfl) (w_and1 (t_val (d_call (ok_does_hold c) bd_does_hold (hr.mono (by decide)) rfl takesW0 (a_cons (d_var (i := 4) rfl (Or.inl rfl)) (a_cons (d_var (i := 2) rfl (Or.inr (Or.inl rfl))) a_nil))))))))) (fun s H C cl fp => (d_var (i := 3) rfl (Or.inl rfl)))) a_nil)))))))

abbrev N_judge_book : List Str := ["book", "b", "a", "number"]
theorem sc_judge_book : FnScope N_judge_book ["book"] (defScope st_judge_book) := ⟨rfl, rfl, rfl, by decide +kernel, rfl, by decide +kernel, by decide +kernel⟩
theorem bd_judge_book : BindOk "judge_book" st_judge_book ["book"] := fun _ _ _ _ _ _ us hl => match us, hl with | [_], _ => rfl
noncomputable def b_judge_book : SM :=
      (sSeq (sDrop (mCall 1 m_need_book (aCons (mVar 0) aNil)))
      (sSeq (sFor (iRng1 (aCons (mB lenD (aCons (mVar 0) aNil)) aNil)) (gN 1) (sFor (iRng1 (aCons (mVar 1) aNil)) (gN 2) (sSeq (sAsg (mCall 2 m_clash_of (aCons (mOp ixD (mVar 0) (mVar 2)) (aCons (mOp ixD (mVar 0) (mVar 1)) aNil))) (gN 3))
      (sIf (bVal (mOp isnD (mVar 3) (mC .non))) (sRet (mTup (aCons (mC (.str "clash")) (aCons (mVar 2) (aCons (mVar 1) (aCons (mVar 3) aNil)))))) sNil))))
      (sRet (mTup (aCons (mC (.str "clear")) aNil)))))
noncomputable def m_judge_book : FM := fnP N_judge_book.length b_judge_book
theorem ok_judge_book (c : Fx K mg) : FD P w K mg base "judge_book" st_judge_book ["book"] 6 m_judge_book := by
    obtain ⟨f, fd, G⟩ := c.g_judge_book
    refine (fd_mk (k := 5) G sc_judge_book fun X W cdv A outer s H E eX eW tk hp hr => ?_)
    have hu := hr.units
    have hu65 : X.A.units + 65 < cLine := by have := hr.un; omega
    have hu1 : X.A.units + 1 < cLine := by have := hr.un; omega
    have nd := sc_judge_book.nd
    subst eX
    exact (b_cons (s_drop (d_call (ok_need_book c) bd_need_book (hr.mono (by decide)) rfl tk (a_cons (d_var (i := 0) rfl (Or.inl rfl)) a_nil)))
      (b_cons (s_for hp rfl (i_rng1 (by rfl) c.n_range (a_cons (d_B (cD_len) (by rfl) c.n_len bt_len (a_cons (d_var (i := 0) rfl (Or.inl rfl)) a_nil)) a_nil)) (g_name nd (i := 1) rfl (Or.inl rfl) (Or.inr rfl)) (b_one (s_for hp rfl (i_rng1 (by rfl) c.n_range (a_cons (d_var (i := 1) rfl (Or.inl rfl)) a_nil)) (g_name nd (i := 2) rfl (Or.inl rfl) (Or.inr rfl)) (b_cons (s_set nd (i := 3) rfl (Or.inl rfl) (Or.inr rfl) (d_call (ok_clash_of c) bd_clash_of (hr.mono (by decide)) rfl tk (a_cons (d_ix hu1 (d_var (i := 0) rfl (Or.inl rfl)) (d_var (i := 2) rfl (Or.inl rfl)) (fun _ _ => rfl)) (a_cons (d_ix hu1 (d_var (i := 0) rfl (Or.inl rfl)) (d_var (i := 1) rfl (Or.inl rfl)) (fun _ _ => rfl)) a_nil))))
      (b_one (s_if (t_cmp opD_isn (d_var (i := 3) rfl (Or.inl rfl)) d_non rfl) (b_one (s_ret (d_tup (a_cons (d_gstr (by rfl) c.v_CLASH) (a_cons (d_var (i := 2) rfl (Or.inl rfl)) (a_cons (d_var (i := 1) rfl (Or.inl rfl)) (a_cons (d_var (i := 3) rfl (Or.inl rfl)) a_nil))))))) b_nil))))))
      (b_one (s_ret (d_tup (a_cons (d_gstr (by rfl) c.v_CLEAR) a_nil))))))

abbrev N_book_holds : List Str := ["book", "thing", "item", "a", "b", "number"]
theorem sc_book_holds : FnScope N_book_holds ["book", "thing"] (defScope st_book_holds) := ⟨rfl, rfl, rfl, by decide +kernel, rfl, by decide +kernel, by decide +kernel⟩
theorem bd_book_holds : BindOk "book_holds" st_book_holds ["book", "thing"] := fun _ _ _ _ _ _ us hl => match us, hl with | [_, _], _ => rfl
noncomputable def b_book_holds : SM :=
      (sSeq (sDrop (mCall 1 m_need_book (aCons (mVar 0) aNil)))
      (sSeq (sIf (bAnd (bVal (mCall 2 m_is_tuple (aCons (mVar 1) (aCons (mC (.int 1)) aNil)))) (bVal (mCall 2 m_is_word (aCons (mOp ixD (mVar 1) (mC (.int 0))) (aCons (mTup (aCons (mC (.str "clear")) aNil)) aNil))))) (sRet (mOp eqD (mCall 1 m_judge_book (aCons (mVar 0) aNil)) (mTup (aCons (mC (.str "clear")) aNil)))) sNil)
      (sSeq (sIf (bOr (bNot (bVal (mCall 2 m_is_tuple (aCons (mVar 1) (aCons (mC (.int 4)) aNil))))) (bOr (bNot (bVal (mCall 2 m_is_word (aCons (mOp ixD (mVar 1) (mC (.int 0))) (aCons (mTup (aCons (mC (.str "clash")) aNil)) aNil))))) (bNot (bVal (mB allD (aCons (mLc (iSeq (mSl (mVar 1) (oSome (mC (.int 1))) oNone)) (gN 2) bYes (mCall 1 m_is_int (aCons (mVar 2) aNil)) [2]) aNil)))))) (sRet (mC (.bl false))) sNil)
      (sSeq (sAsg (mSl (mVar 1) (oSome (mC (.int 1))) oNone) (gT [(gN 3), (gN 4), (gN 5)]))
      (sRet (mAnd (mChain3 leD ltD ltD (mC (.int 0)) (mVar 3) (mVar 4) (mB lenD (aCons (mVar 0) aNil))) (mOp eqD (mCall 2 m_clash_of (aCons (mOp ixD (mVar 0) (mVar 3)) (aCons (mOp ixD (mVar 0) (mVar 4)) aNil))) (mVar 5))))))))
noncomputable def m_book_holds : FM := fnP N_book_holds.length b_book_holds
theorem ok_book_holds (c : Fx K mg) : FD P w K mg base "book_holds" st_book_holds ["book", "thing"] 7 m_book_holds := by
    obtain ⟨f, fd, G⟩ := c.g_book_holds
    refine (fd_mk (k := 6) G sc_book_holds fun X W cdv A outer s H E eX eW tk hp hr => ?_)
    have hu := hr.units
    have hu65 : X.A.units + 65 < cLine := by have := hr.un; omega
    have hu1 : X.A.units + 1 < cLine := by have := hr.un; omega
    have nd := sc_book_holds.nd
    subst eX
    exact (b_cons (s_drop (d_call (ok_need_book c) bd_need_book (hr.mono (by decide)) rfl tk (a_cons (d_var (i := 0) rfl (Or.inl rfl)) a_nil)))
      (b_cons (s_if (t_bool (w_and (t_val (d_call (ok_is_tuple c) bd_is_tuple (hr.mono (by decide)) rfl tk (a_cons (d_var (i := 1) rfl (Or.inl rfl)) (a_cons d_int a_nil)))) (w_and1 (t_val (d_call (ok_is_word c) bd_is_word (hr.mono (by decide)) rfl tk (a_cons (d_ix hu1 (d_var (i := 1) rfl (Or.inl rfl)) d_int (fun _ _ => rfl)) (a_cons (d_tup (a_cons (d_gstr (by rfl) c.v_CLEAR) a_nil)) a_nil))))))) (b_one (s_ret (d_cmp (opD_eq hu) (d_call (ok_judge_book c) bd_judge_book (hr.mono (by decide)) rfl tk (a_cons (d_var (i := 0) rfl (Or.inl rfl)) a_nil)) (d_tup (a_cons (d_gstr (by rfl) c.v_CLEAR) a_nil)) rfl))) b_nil)
      (b_cons (s_if (t_bool (w_or (t_not (t_val (d_call (ok_is_tuple c) bd_is_tuple (hr.mono (by decide)) rfl tk (a_cons (d_var (i := 1) rfl (Or.inl rfl)) (a_cons d_int a_nil))))) (w_or (t_not (t_val (d_call (ok_is_word c) bd_is_word (hr.mono (by decide)) rfl tk (a_cons (d_ix hu1 (d_var (i := 1) rfl (Or.inl rfl)) d_int (fun _ _ => rfl)) (a_cons (d_tup (a_cons (d_gstr (by rfl) c.v_CLASH) a_nil)) a_nil))))) (w_or1 (t_not (t_val (d_B (cD_all rfl) (by rfl) c.n_all bt_all (a_cons (d_lc rfl nd (i_seq (d_sl (d_var (i := 1) rfl (Or.inl rfl)) (o_some d_int) o_none)) (blkOk_by (own := [("item", 2)]) (by kernel_rfl)) (by decide) (fun s H C cl fp => (g_name nd (i := 2) rfl (Or.inl rfl) (Or.inr rfl))) (fun s H C cl fp => ts_nil) (fun s H C cl fp => (d_call (ok_is_int c) bd_is_int (hr.mono (by decide)) rfl takesW0 (a_cons (d_var (i := 2) rfl (Or.inl rfl)) a_nil)))) a_nil)))))))) (b_one (s_ret d_bl)) b_nil)
      (b_cons (s_asg (d_sl (d_var (i := 1) rfl (Or.inl rfl)) (o_some d_int) o_none) (g_tup rfl (gs_cons (g_name nd (i := 3) rfl (Or.inl rfl) (Or.inr rfl)) (gs_cons (g_name nd (i := 4) rfl (Or.inl rfl) (Or.inr rfl)) (gs_cons (g_name nd (i := 5) rfl (Or.inl rfl) (Or.inr rfl)) gs_nil)))))
      (b_one (s_ret (d_and (d_chain3 opD_le opD_lt opD_lt d_int (d_var (i := 3) rfl (Or.inl rfl)) (d_var (i := 4) rfl (Or.inl rfl)) (d_B (cD_len) (by rfl) c.n_len bt_len (a_cons (d_var (i := 0) rfl (Or.inl rfl)) a_nil))) (d_one (d_cmp (opD_eq hu) (d_call (ok_clash_of c) bd_clash_of (hr.mono (by decide)) rfl tk (a_cons (d_ix hu1 (d_var (i := 0) rfl (Or.inl rfl)) (d_var (i := 3) rfl (Or.inl rfl)) (fun _ _ => rfl)) (a_cons (d_ix hu1 (d_var (i := 0) rfl (Or.inl rfl)) (d_var (i := 4) rfl (Or.inl rfl)) (fun _ _ => rfl)) a_nil))) (d_var (i := 5) rfl (Or.inl rfl)) rfl)))))))))

abbrev N__law_deck : List Str := ["script", "mixed", "cell"]
theorem sc__law_deck : FnScope N__law_deck ["script"] (defScope st__law_deck) := ⟨rfl, rfl, rfl, by decide +kernel, rfl, by decide +kernel, by decide +kernel⟩
theorem bd__law_deck : BindOk "_law_deck" st__law_deck ["script"] := fun _ _ _ _ _ _ us hl => match us, hl with | [_], _ => rfl
noncomputable def b__law_deck : SM :=
      (sSeq (sAsg (mC (.int 15374035)) (gN 1))
      (sSeq (sFor (iSeq (mSl (mVar 0) oNone (oSome (mC (.int 63))))) (gN 2) (sAsg (mOp modD (mB intfD (aCons (mOp addD (mOp addD (mOp mulD (mVar 1) (mC (.int 48271))) (mOp modD (mB intfD (aCons (mVar 2) aNil)) (mC (.int 2147483629)))) (mC (.int 83))) aNil)) (mC (.int 2147483587))) (gN 1)))
      (sRet (mDict (pCons (mC (.str "cells")) (mRevN (mLc (iSeq (mSl (mVar 0) oNone (oSome (mC (.int 63))))) (gN 2) bYes (mB intfD (aCons (mVar 2) aNil)) [2])) (pCons (mC (.str "mixed")) (mVar 1) (pCons (mC (.str "draws")) (mC (.int 0)) pNil)))))))
noncomputable def m__law_deck : FM := fnP N__law_deck.length b__law_deck
theorem ok__law_deck (c : Fx K mg) : FD P w K mg base "_law_deck" st__law_deck ["script"] 1 m__law_deck := by
    obtain ⟨f, fd, G⟩ := c.g__law_deck
    refine (fd_mk (k := 0) G sc__law_deck fun X W cdv A outer s H E eX eW tk hp hr => ?_)
    have hu := hr.units
    have hu65 : X.A.units + 65 < cLine := by have := hr.un; omega
    have hu1 : X.A.units + 1 < cLine := by have := hr.un; omega
    have nd := sc__law_deck.nd
    subst eX
    exact (b_cons (s_set nd (i := 1) rfl (Or.inl rfl) (Or.inr rfl) d_int)
      (b_cons (s_for hp rfl (i_seq (d_sl (d_var (i := 0) rfl (Or.inl rfl)) o_none (o_some d_int))) (g_name nd (i := 2) rfl (Or.inl rfl) (Or.inr rfl)) (b_one (s_set nd (i := 1) rfl (Or.inl rfl) (Or.inr rfl) (d_bin opD_mod (d_Ty (cD_int) (by rfl) c.n_int bt_int (a_cons (d_bin opD_add (d_bin opD_add (d_bin opD_mul (d_var (i := 1) rfl (Or.inl rfl)) d_int) (d_bin opD_mod (d_Ty (cD_int) (by rfl) c.n_int bt_int (a_cons (d_var (i := 2) rfl (Or.inl rfl)) a_nil)) d_int)) d_int) a_nil)) d_int))))
      (b_one (s_ret (d_dict (p_cons d_str (d_revN (d_lc rfl nd (i_seq (d_sl (d_var (i := 0) rfl (Or.inl rfl)) o_none (o_some d_int))) (blkOk_by (own := [("cell", 2)]) (by kernel_rfl)) (by decide) (fun s H C cl fp => (g_name nd (i := 2) rfl (Or.inl rfl) (Or.inr rfl))) (fun s H C cl fp => ts_nil) (fun s H C cl fp => (d_Ty (cD_int) (by rfl) c.n_int bt_int (a_cons (d_var (i := 2) rfl (Or.inl rfl)) a_nil))))) (p_cons d_str (d_var (i := 1) rfl (Or.inl rfl)) (p_cons d_str d_int p_nil))))))))

abbrev N__law_draw : List Str := ["deck", "many", "number", "cell"]
theorem sc__law_draw : FnScope N__law_draw ["deck", "many"] (defScope st__law_draw) := ⟨rfl, rfl, rfl, by decide +kernel, rfl, by decide +kernel, by decide +kernel⟩
theorem bd__law_draw : BindOk "_law_draw" st__law_draw ["deck", "many"] := fun _ _ _ _ _ _ us hl => match us, hl with | [_, _], _ => rfl
noncomputable def b__law_draw : SM :=
      (sSeq (sAsg (mOp addD (mOp ixD (mVar 0) (mC (.str "draws"))) (mC (.int 1))) (gSet (mVar 0) (mC (.str "draws"))))
      (sSeq (sAsg (mOp addD (mOp ixD (mVar 0) (mC (.str "mixed"))) (mOp mulD (mC (.int 50021)) (mOp ixD (mVar 0) (mC (.str "draws"))))) (gN 2))
      (sSeq (sIf (bVal (mOp ne0D (mOp ixD (mVar 0) (mC (.str "cells"))) (mLst aNil))) (sSeq (sAsg (mM "list" popD (mOp ixD (mVar 0) (mC (.str "cells"))) aNil) (gN 3))
      (sSeq (sIf (bVal (mOp geD (mVar 3) (mOp powD (mC (.int 10)) (mC (.int 18))))) (sSeq (sDrop (mM "list" appD (mOp ixD (mVar 0) (mC (.str "cells"))) (aCons (mOp fdivD (mVar 3) (mB max2D (aCons (mC (.int 2)) (aCons (mVar 1) aNil)))) aNil)))
      (sRet (mOp modD (mB intfD (aCons (mVar 3) aNil)) (mVar 1)))) sNil)
      (sAsg (mOp addD (mVar 2) (mOp modD (mB intfD (aCons (mVar 3) aNil)) (mC (.int 2147483629)))) (gN 2)))) sNil)
      (sSeq (sAsg (mOp modD (mB intfD (aCons (mOp addD (mOp mulD (mVar 2) (mC (.int 39373))) (mC (.int 83))) aNil)) (mC (.int 2147483647))) (gN 2))
      (sSeq (sAsg (mOp modD (mB intfD (aCons (mOp addD (mOp addD (mOp mulD (mVar 2) (mVar 2)) (mOp mulD (mC (.int 61441)) (mOp ixD (mVar 0) (mC (.str "draws"))))) (mC (.int 211))) aNil)) (mC (.int 2147483587))) (gN 2))
      (sSeq (sAsg (mOp modD (mB intfD (aCons (mOp addD (mOp mulD (mVar 2) (mC (.int 40692))) (mOp fdivD (mVar 2) (mC (.int 7919)))) aNil)) (mC (.int 2147483563))) (gN 2))
      (sRet (mOp modD (mB intfD (aCons (mOp fdivD (mVar 2) (mC (.int 64))) aNil)) (mVar 1)))))))))
noncomputable def m__law_draw : FM := fnP N__law_draw.length b__law_draw
theorem ok__law_draw (c : Fx K mg) : FD P w K mg base "_law_draw" st__law_draw ["deck", "many"] 1 m__law_draw := by
    obtain ⟨f, fd, G⟩ := c.g__law_draw
    refine (fd_mk (k := 0) G sc__law_draw fun X W cdv A outer s H E eX eW tk hp hr => ?_)
    have hu := hr.units
    have hu65 : X.A.units + 65 < cLine := by have := hr.un; omega
    have hu1 : X.A.units + 1 < cLine := by have := hr.un; omega
    have nd := sc__law_draw.nd
    subst eX
    exact (b_cons (s_asg (d_bin opD_add (d_ix hu1 (d_var (i := 0) rfl (Or.inl rfl)) d_str (fun _ _ => rfl)) d_int) (g_set hu1 (d_var (i := 0) rfl (Or.inl rfl)) d_str))
      (b_cons (s_set nd (i := 2) rfl (Or.inl rfl) (Or.inr rfl) (d_bin opD_add (d_ix hu1 (d_var (i := 0) rfl (Or.inl rfl)) d_str (fun _ _ => rfl)) (d_bin opD_mul d_int (d_ix hu1 (d_var (i := 0) rfl (Or.inl rfl)) d_str (fun _ _ => rfl)))))
      (b_cons (s_if (t_cmp (opD_ne0 hu) (d_ix hu1 (d_var (i := 0) rfl (Or.inl rfl)) d_str (fun _ _ => rfl)) (d_lst a_nil) rfl) (b_cons (s_set nd (i := 3) rfl (Or.inl rfl) (Or.inr rfl) (d_bm0 PySem.F.plainAttrs_list PySem.F.slot_list_pop PySem.F.type_list_pop mD_pop (d_ix hu1 (d_var (i := 0) rfl (Or.inl rfl)) d_str (fun _ _ => rfl))))
      (b_cons (s_if (t_cmp opD_ge (d_var (i := 3) rfl (Or.inl rfl)) (d_bin opD_pow d_int d_int) rfl) (b_cons (s_drop (d_bm PySem.F.plainAttrs_list PySem.F.slot_list_append PySem.F.type_list_append mD_app (d_ix hu1 (d_var (i := 0) rfl (Or.inl rfl)) d_str (fun _ _ => rfl)) (a_cons (d_bin opD_fdiv (d_var (i := 3) rfl (Or.inl rfl)) (d_B (cD_max2 rfl) (by rfl) c.n_max bt_max (a_cons d_int (a_cons (d_var (i := 1) rfl (Or.inl rfl)) a_nil)))) a_nil)))
      (b_one (s_ret (d_bin opD_mod (d_Ty (cD_int) (by rfl) c.n_int bt_int (a_cons (d_var (i := 3) rfl (Or.inl rfl)) a_nil)) (d_var (i := 1) rfl (Or.inl rfl)))))) b_nil)
      (b_one (s_set nd (i := 2) rfl (Or.inl rfl) (Or.inr rfl) (d_bin opD_add (d_var (i := 2) rfl (Or.inl rfl)) (d_bin opD_mod (d_Ty (cD_int) (by rfl) c.n_int bt_int (a_cons (d_var (i := 3) rfl (Or.inl rfl)) a_nil)) d_int)))))) b_nil)
      (b_cons (s_set nd (i := 2) rfl (Or.inl rfl) (Or.inr rfl) (d_bin opD_mod (d_Ty (cD_int) (by rfl) c.n_int bt_int (a_cons (d_bin opD_add (d_bin opD_mul (d_var (i := 2) rfl (Or.inl rfl)) d_int) d_int) a_nil)) d_int))
      (b_cons (s_set nd (i := 2) rfl (Or.inl rfl) (Or.inr rfl) (d_bin opD_mod (d_Ty (cD_int) (by rfl) c.n_int bt_int (a_cons (d_bin opD_add (d_bin opD_add (d_bin opD_mul (d_var (i := 2) rfl (Or.inl rfl)) (d_var (i := 2) rfl (Or.inl rfl))) (d_bin opD_mul d_int (d_ix hu1 (d_var (i := 0) rfl (Or.inl rfl)) d_str (fun _ _ => rfl)))) d_int) a_nil)) d_int))
      (b_cons (s_set nd (i := 2) rfl (Or.inl rfl) (Or.inr rfl) (d_bin opD_mod (d_Ty (cD_int) (by rfl) c.n_int bt_int (a_cons (d_bin opD_add (d_bin opD_mul (d_var (i := 2) rfl (Or.inl rfl)) d_int) (d_bin opD_fdiv (d_var (i := 2) rfl (Or.inl rfl)) d_int)) a_nil)) d_int))
      (b_one (s_ret (d_bin opD_mod (d_Ty (cD_int) (by rfl) c.n_int bt_int (a_cons (d_bin opD_fdiv (d_var (i := 2) rfl (Or.inl rfl)) d_int) a_nil)) (d_var (i := 1) rfl (Or.inl rfl)))))))))))

abbrev N__law_pick : List Str := ["deck", "some"]
theorem sc__law_pick : FnScope N__law_pick ["deck", "some"] (defScope st__law_pick) := ⟨rfl, rfl, rfl, by decide +kernel, rfl, by decide +kernel, by decide +kernel⟩
theorem bd__law_pick : BindOk "_law_pick" st__law_pick ["deck", "some"] := fun _ _ _ _ _ _ us hl => match us, hl with | [_, _], _ => rfl
noncomputable def b__law_pick : SM :=
      (sRet (mOp ixD (mVar 1) (mCall 2 m__law_draw (aCons (mVar 0) (aCons (mB lenD (aCons (mVar 1) aNil)) aNil)))))
noncomputable def m__law_pick : FM := fnP N__law_pick.length b__law_pick
theorem ok__law_pick (c : Fx K mg) : FD P w K mg base "_law_pick" st__law_pick ["deck", "some"] 2 m__law_pick := by
    obtain ⟨f, fd, G⟩ := c.g__law_pick
    refine (fd_mk (k := 1) G sc__law_pick fun X W cdv A outer s H E eX eW tk hp hr => ?_)
    have hu := hr.units
    have hu65 : X.A.units + 65 < cLine := by have := hr.un; omega
    have hu1 : X.A.units + 1 < cLine := by have := hr.un; omega
    have nd := sc__law_pick.nd
    subst eX
    exact (b_one (s_ret (d_ix hu1 (d_var (i := 1) rfl (Or.inl rfl)) (d_call (ok__law_draw c) bd__law_draw (hr.mono (by decide)) rfl tk (a_cons (d_var (i := 0) rfl (Or.inl rfl)) (a_cons (d_B (cD_len) (by rfl) c.n_len bt_len (a_cons (d_var (i := 1) rfl (Or.inl rfl)) a_nil)) a_nil))) (fun _ _ => rfl))))

abbrev N__law_euclid : List Str := ["one", "other", "near", "far", "x", "y", "turn", "many"]
theorem sc__law_euclid : FnScope N__law_euclid ["one", "other"] (defScope st__law_euclid) := ⟨rfl, rfl, rfl, by decide +kernel, rfl, by decide +kernel, by decide +kernel⟩
theorem bd__law_euclid : BindOk "_law_euclid" st__law_euclid ["one", "other"] := fun _ _ _ _ _ _ us hl => match us, hl with | [_, _], _ => rfl
noncomputable def b__law_euclid : SM :=
      (sSeq (sAsg (mTup (aCons (mVar 0) (aCons (mVar 1) (aCons (mC (.int 1)) (aCons (mC (.int 0)) aNil))))) (gT [(gN 2), (gN 3), (gN 4), (gN 5)]))
      (sSeq (sFor (iRng1 (aCons (mC (.int 200)) aNil)) (gN 6) (sSeq (sIf (bVal (mOp eqD (mVar 3) (mC (.int 0)))) sBk sNil)
      (sSeq (sAsg (mOp fdivD (mVar 2) (mVar 3)) (gN 7))
      (sAsg (mTup (aCons (mVar 3) (aCons (mOp subD (mVar 2) (mOp mulD (mVar 7) (mVar 3))) (aCons (mVar 5) (aCons (mOp subD (mVar 4) (mOp mulD (mVar 7) (mVar 5))) aNil))))) (gT [(gN 2), (gN 3), (gN 4), (gN 5)])))))
      (sRet (mTup (aCons (mVar 2) (aCons (mVar 4) aNil))))))
noncomputable def m__law_euclid : FM := fnP N__law_euclid.length b__law_euclid
theorem ok__law_euclid (c : Fx K mg) : FD P w K mg base "_law_euclid" st__law_euclid ["one", "other"] 1 m__law_euclid := by
    obtain ⟨f, fd, G⟩ := c.g__law_euclid
    refine (fd_mk (k := 0) G sc__law_euclid fun X W cdv A outer s H E eX eW tk hp hr => ?_)
    have hu := hr.units
    have hu65 : X.A.units + 65 < cLine := by have := hr.un; omega
    have hu1 : X.A.units + 1 < cLine := by have := hr.un; omega
    have nd := sc__law_euclid.nd
    subst eX
    exact (b_cons (s_asg (d_tup (a_cons (d_var (i := 0) rfl (Or.inl rfl)) (a_cons (d_var (i := 1) rfl (Or.inl rfl)) (a_cons d_int (a_cons d_int a_nil))))) (g_tup rfl (gs_cons (g_name nd (i := 2) rfl (Or.inl rfl) (Or.inr rfl)) (gs_cons (g_name nd (i := 3) rfl (Or.inl rfl) (Or.inr rfl)) (gs_cons (g_name nd (i := 4) rfl (Or.inl rfl) (Or.inr rfl)) (gs_cons (g_name nd (i := 5) rfl (Or.inl rfl) (Or.inr rfl)) gs_nil))))))
      (b_cons (s_for hp rfl (i_rng1 (by rfl) c.n_range (a_cons d_int a_nil)) (g_name nd (i := 6) rfl (Or.inl rfl) (Or.inr rfl)) (b_cons (s_if (t_cmp (opD_eq hu) (d_var (i := 3) rfl (Or.inl rfl)) d_int rfl) (b_one s_bk) b_nil)
      (b_cons (s_set nd (i := 7) rfl (Or.inl rfl) (Or.inr rfl) (d_bin opD_fdiv (d_var (i := 2) rfl (Or.inl rfl)) (d_var (i := 3) rfl (Or.inl rfl))))
      (b_one (s_asg (d_tup (a_cons (d_var (i := 3) rfl (Or.inl rfl)) (a_cons (d_bin opD_sub (d_var (i := 2) rfl (Or.inl rfl)) (d_bin opD_mul (d_var (i := 7) rfl (Or.inl rfl)) (d_var (i := 3) rfl (Or.inl rfl)))) (a_cons (d_var (i := 5) rfl (Or.inl rfl)) (a_cons (d_bin opD_sub (d_var (i := 4) rfl (Or.inl rfl)) (d_bin opD_mul (d_var (i := 7) rfl (Or.inl rfl)) (d_var (i := 5) rfl (Or.inl rfl)))) a_nil))))) (g_tup rfl (gs_cons (g_name nd (i := 2) rfl (Or.inl rfl) (Or.inr rfl)) (gs_cons (g_name nd (i := 3) rfl (Or.inl rfl) (Or.inr rfl)) (gs_cons (g_name nd (i := 4) rfl (Or.inl rfl) (Or.inr rfl)) (gs_cons (g_name nd (i := 5) rfl (Or.inl rfl) (Or.inr rfl)) gs_nil))))))))))
      (b_one (s_ret (d_tup (a_cons (d_var (i := 2) rfl (Or.inl rfl)) (a_cons (d_var (i := 4) rfl (Or.inl rfl)) a_nil)))))))

abbrev N__law_common : List Str := ["one", "other", "first", "count", "step", "begin", "many", "stride", "divisor", "factor", "turns", "number", "low"]
theorem sc__law_common : FnScope N__law_common ["one", "other"] (defScope st__law_common) := ⟨rfl, rfl, rfl, by decide +kernel, rfl, by decide +kernel, by decide +kernel⟩
theorem bd__law_common : BindOk "_law_common" st__law_common ["one", "other"] := fun _ _ _ _ _ _ us hl => match us, hl with | [_, _], _ => rfl
noncomputable def b__law_common : SM :=
      (sSeq (sIf (bVal (mOp neD (mOp ixD (mVar 0) (mC (.int 0))) (mOp ixD (mVar 1) (mC (.int 0))))) (sRet (mC .non)) sNil)
      (sSeq (sAsg (mTup (aCons (mSl (mVar 0) (oSome (mC (.int 1))) (oSome (mC (.int 4)))) (aCons (mSl (mVar 1) (oSome (mC (.int 1))) (oSome (mC (.int 4)))) aNil))) (gT [(gT [(gN 2), (gN 3), (gN 4)]), (gT [(gN 5), (gN 6), (gN 7)])]))
      (sSeq (sAsg (mCall 2 m__law_euclid (aCons (mVar 4) (aCons (mVar 7) aNil))) (gT [(gN 8), (gN 9)]))
      (sSeq (sIf (bVal (mOp neD (mOp modD (mB intfD (aCons (mOp subD (mVar 5) (mVar 2)) aNil)) (mVar 8)) (mC (.int 0)))) (sRet (mC .non)) sNil)
      (sSeq (sAsg (mOp modD (mB intfD (aCons (mOp mulD (mOp fdivD (mOp subD (mVar 5) (mVar 2)) (mVar 8)) (mVar 9)) aNil)) (mOp fdivD (mVar 7) (mVar 8))) (gN 10))
      (sSeq (sPar [11, 12] (aCons (mOp addD (mVar 2) (mOp mulD (mVar 10) (mVar 4))) (aCons (mB max2D (aCons (mVar 2) (aCons (mVar 5) aNil))) aNil)))
      (sSeq (sAsg (mOp addD (mVar 12) (mOp modD (mB intfD (aCons (mOp subD (mVar 11) (mVar 12)) aNil)) (mOp mulD (mOp fdivD (mVar 4) (mVar 8)) (mVar 7)))) (gN 11))
      (sRet (mIf (bVal (mOp leD (mVar 11) (mB min2D (aCons (mOp addD (mVar 2) (mOp mulD (mOp subD (mVar 3) (mC (.int 1))) (mVar 4))) (aCons (mOp addD (mVar 5) (mOp mulD (mOp subD (mVar 6) (mC (.int 1))) (mVar 7))) aNil))))) (mVar 11) (mC .non))))))))))
noncomputable def m__law_common : FM := fnP N__law_common.length b__law_common
theorem ok__law_common (c : Fx K mg) : FD P w K mg base "_law_common" st__law_common ["one", "other"] 2 m__law_common := by
    obtain ⟨f, fd, G⟩ := c.g__law_common
    refine (fd_mk (k := 1) G sc__law_common fun X W cdv A outer s H E eX eW tk hp hr => ?_)
    have hu := hr.units
    have hu65 : X.A.units + 65 < cLine := by have := hr.un; omega
    have hu1 : X.A.units + 1 < cLine := by have := hr.un; omega
    have nd := sc__law_common.nd
    subst eX
    exact (b_cons (s_if (t_cmp (opD_ne hu) (d_ix hu1 (d_var (i := 0) rfl (Or.inl rfl)) d_int (fun _ _ => rfl)) (d_ix hu1 (d_var (i := 1) rfl (Or.inl rfl)) d_int (fun _ _ => rfl)) rfl) (b_one (s_ret d_non)) b_nil)
      (b_cons (s_asg (d_tup (a_cons (d_sl (d_var (i := 0) rfl (Or.inl rfl)) (o_some d_int) (o_some d_int)) (a_cons (d_sl (d_var (i := 1) rfl (Or.inl rfl)) (o_some d_int) (o_some d_int)) a_nil))) (g_tup rfl (gs_cons (g_tup rfl (gs_cons (g_name nd (i := 2) rfl (Or.inl rfl) (Or.inr rfl)) (gs_cons (g_name nd (i := 3) rfl (Or.inl rfl) (Or.inr rfl)) (gs_cons (g_name nd (i := 4) rfl (Or.inl rfl) (Or.inr rfl)) gs_nil)))) (gs_cons (g_tup rfl (gs_cons (g_name nd (i := 5) rfl (Or.inl rfl) (Or.inr rfl)) (gs_cons (g_name nd (i := 6) rfl (Or.inl rfl) (Or.inr rfl)) (gs_cons (g_name nd (i := 7) rfl (Or.inl rfl) (Or.inr rfl)) gs_nil)))) gs_nil))))
      (b_cons (s_asg (d_call (ok__law_euclid c) bd__law_euclid (hr.mono (by decide)) rfl tk (a_cons (d_var (i := 4) rfl (Or.inl rfl)) (a_cons (d_var (i := 7) rfl (Or.inl rfl)) a_nil))) (g_tup rfl (gs_cons (g_name nd (i := 8) rfl (Or.inl rfl) (Or.inr rfl)) (gs_cons (g_name nd (i := 9) rfl (Or.inl rfl) (Or.inr rfl)) gs_nil))))
      (b_cons (s_if (t_cmp (opD_ne hu) (d_bin opD_mod (d_Ty (cD_int) (by rfl) c.n_int bt_int (a_cons (d_bin opD_sub (d_var (i := 5) rfl (Or.inl rfl)) (d_var (i := 2) rfl (Or.inl rfl))) a_nil)) (d_var (i := 8) rfl (Or.inl rfl))) d_int rfl) (b_one (s_ret d_non)) b_nil)
      (b_cons (s_set nd (i := 10) rfl (Or.inl rfl) (Or.inr rfl) (d_bin opD_mod (d_Ty (cD_int) (by rfl) c.n_int bt_int (a_cons (d_bin opD_mul (d_bin opD_fdiv (d_bin opD_sub (d_var (i := 5) rfl (Or.inl rfl)) (d_var (i := 2) rfl (Or.inl rfl))) (d_var (i := 8) rfl (Or.inl rfl))) (d_var (i := 9) rfl (Or.inl rfl))) a_nil)) (d_bin opD_fdiv (d_var (i := 7) rfl (Or.inl rfl)) (d_var (i := 8) rfl (Or.inl rfl)))))
      (b_cons (s_par2 (i := 11) (j := 12) rfl nd rfl rfl (by decide) rfl rfl (a_cons (d_bin opD_add (d_var (i := 2) rfl (Or.inl rfl)) (d_bin opD_mul (d_var (i := 10) rfl (Or.inl rfl)) (d_var (i := 4) rfl (Or.inl rfl)))) (a_cons (d_B (cD_max2 rfl) (by rfl) c.n_max bt_max (a_cons (d_var (i := 2) rfl (Or.inl rfl)) (a_cons (d_var (i := 5) rfl (Or.inl rfl)) a_nil))) a_nil)))
      (b_cons (s_set nd (i := 11) rfl (Or.inl rfl) (Or.inr rfl) (d_bin opD_add (d_var (i := 12) rfl (Or.inl rfl)) (d_bin opD_mod (d_Ty (cD_int) (by rfl) c.n_int bt_int (a_cons (d_bin opD_sub (d_var (i := 11) rfl (Or.inl rfl)) (d_var (i := 12) rfl (Or.inl rfl))) a_nil)) (d_bin opD_mul (d_bin opD_fdiv (d_var (i := 4) rfl (Or.inl rfl)) (d_var (i := 8) rfl (Or.inl rfl))) (d_var (i := 7) rfl (Or.inl rfl))))))
      (b_one (s_ret (d_if (t_cmp opD_le (d_var (i := 11) rfl (Or.inl rfl)) (d_B (cD_min2 rfl) (by rfl) c.n_min bt_min (a_cons (d_bin opD_add (d_var (i := 2) rfl (Or.inl rfl)) (d_bin opD_mul (d_bin opD_sub (d_var (i := 3) rfl (Or.inl rfl)) d_int) (d_var (i := 4) rfl (Or.inl rfl)))) (a_cons (d_bin opD_add (d_var (i := 5) rfl (Or.inl rfl)) (d_bin opD_mul (d_bin opD_sub (d_var (i := 6) rfl (Or.inl rfl)) d_int) (d_var (i := 7) rfl (Or.inl rfl)))) a_nil))) rfl) (d_var (i := 11) rfl (Or.inl rfl)) d_non))))))))))

abbrev N__law_holds : List Str := ["claim", "number"]
theorem sc__law_holds : FnScope N__law_holds ["claim", "number"] (defScope st__law_holds) := ⟨rfl, rfl, rfl, by decide +kernel, rfl, by decide +kernel, by decide +kernel⟩
theorem bd__law_holds : BindOk "_law_holds" st__law_holds ["claim", "number"] := fun _ _ _ _ _ _ us hl => match us, hl with | [_, _], _ => rfl
noncomputable def b__law_holds : SM :=
      (sRet (mAnd (mChain leD leD (mC (.int 0)) (mOp subD (mVar 1) (mOp ixD (mVar 0) (mC (.int 1)))) (mOp mulD (mOp subD (mOp ixD (mVar 0) (mC (.int 2))) (mC (.int 1))) (mOp ixD (mVar 0) (mC (.int 3))))) (mOp eqD (mOp modD (mB intfD (aCons (mOp subD (mVar 1) (mOp ixD (mVar 0) (mC (.int 1)))) aNil)) (mOp ixD (mVar 0) (mC (.int 3)))) (mC (.int 0)))))
noncomputable def m__law_holds : FM := fnP N__law_holds.length b__law_holds
theorem ok__law_holds (c : Fx K mg) : FD P w K mg base "_law_holds" st__law_holds ["claim", "number"] 1 m__law_holds := by
    obtain ⟨f, fd, G⟩ := c.g__law_holds
    refine (fd_mk (k := 0) G sc__law_holds fun X W cdv A outer s H E eX eW tk hp hr => ?_)
    have hu := hr.units
    have hu65 : X.A.units + 65 < cLine := by have := hr.un; omega
    have hu1 : X.A.units + 1 < cLine := by have := hr.un; omega
    have nd := sc__law_holds.nd
    subst eX
    exact (b_one (s_ret (d_and (d_chain opD_le opD_le d_int (d_bin opD_sub (d_var (i := 1) rfl (Or.inl rfl)) (d_ix hu1 (d_var (i := 0) rfl (Or.inl rfl)) d_int (fun _ _ => rfl))) (d_bin opD_mul (d_bin opD_sub (d_ix hu1 (d_var (i := 0) rfl (Or.inl rfl)) d_int (fun _ _ => rfl)) d_int) (d_ix hu1 (d_var (i := 0) rfl (Or.inl rfl)) d_int (fun _ _ => rfl)))) (d_one (d_cmp (opD_eq hu) (d_bin opD_mod (d_Ty (cD_int) (by rfl) c.n_int bt_int (a_cons (d_bin opD_sub (d_var (i := 1) rfl (Or.inl rfl)) (d_ix hu1 (d_var (i := 0) rfl (Or.inl rfl)) d_int (fun _ _ => rfl))) a_nil)) (d_ix hu1 (d_var (i := 0) rfl (Or.inl rfl)) d_int (fun _ _ => rfl))) d_int rfl)))))

abbrev N__law_same : List Str := ["told", "due", "one", "other"]
theorem sc__law_same : FnScope N__law_same ["told", "due"] (defScope st__law_same) := ⟨rfl, rfl, rfl, by decide +kernel, rfl, by decide +kernel, by decide +kernel⟩
theorem bd__law_same : BindOk "_law_same" st__law_same ["told", "due"] := fun _ _ _ _ _ _ us hl => match us, hl with | [_, _], _ => rfl
noncomputable def b__law_same (mr : FM) : SM :=
      (sSeq (sIf (bVal (mB isiD (aCons (mVar 1) (aCons (mC (.ty "tuple")) aNil)))) (sSeq (sIf (bOr (bNot (bVal (mB isiD (aCons (mVar 0) (aCons (mC (.ty "tuple")) aNil))))) (bVal (mOp neD (mB lenD (aCons (mVar 0) aNil)) (mB lenD (aCons (mVar 1) aNil))))) (sRet (mC (.bl false))) sNil)
      (sRet (mOp eq0D (mLc (iZipD (aCons (mVar 0) (aCons (mVar 1) aNil))) (gT [(gN 2), (gN 3)]) (bNot (bVal (mCall 2 mr (aCons (mVar 2) (aCons (mVar 3) aNil))))) (mC (.int 1)) [2, 3]) (mLst aNil)))) sNil)
      (sSeq (sIf (bOr (bVal (mOp isD (mVar 1) (mC .non))) (bVal (mB isiD (aCons (mVar 1) (aCons (mC (.ty "bool")) aNil))))) (sRet (mOp eqD (mTup (aCons (mOp isD (mVar 0) (mC .non)) (aCons (mOp isD (mVar 0) (mC (.bl true))) (aCons (mOp isD (mVar 0) (mC (.bl false))) aNil)))) (mTup (aCons (mOp isD (mVar 1) (mC .non)) (aCons (mOp isD (mVar 1) (mC (.bl true))) (aCons (mOp isD (mVar 1) (mC (.bl false))) aNil)))))) sNil)
      (sSeq (sIf (bOr (bVal (mB isiD (aCons (mVar 0) (aCons (mC (.ty "bool")) aNil)))) (bNot (bVal (mB isiD (aCons (mVar 0) (aCons (mTup (aCons (mC (.ty "int")) (aCons (mC (.ty "str")) aNil))) aNil)))))) (sRet (mC (.bl false))) sNil)
      (sRet (mAnd (mOp eqD (mB isiD (aCons (mVar 0) (aCons (mC (.ty "str")) aNil))) (mB isiD (aCons (mVar 1) (aCons (mC (.ty "str")) aNil)))) (mOp eqD (mVar 0) (mVar 1)))))))
noncomputable def m__law_same : Nat → FM
  | 0 => fnP N__law_same.length sBad
  | k + 1 => fnP N__law_same.length (b__law_same (m__law_same k))
theorem ok__law_same (c : Fx K mg) : ∀ n : Nat, FD P w K mg base "_law_same" st__law_same ["told", "due"] (n + 1) (m__law_same n)
  | 0 => by
    obtain ⟨f, fd, G⟩ := c.g__law_same
    exact (fd_mk (k := 0) G sc__law_same fun X W cdv A outer s H E eX eW tk hp hr => b_bad)
  | k + 1 => by
    have ih := ok__law_same c k
    obtain ⟨f, fd, G⟩ := c.g__law_same
    refine (fd_mk (k := k + 1) G sc__law_same fun X W cdv A outer s H E eX eW tk hp hr => ?_)
    have hu := hr.units
    have hu65 : X.A.units + 65 < cLine := by have := hr.un; omega
    have hu1 : X.A.units + 1 < cLine := by have := hr.un; omega
    have nd := sc__law_same.nd
    subst eX
    exact (b_cons (s_if (t_val (d_B (cD_isi) (by rfl) c.n_isinstance bt_isinstance (a_cons (d_var (i := 1) rfl (Or.inl rfl)) (a_cons (d_ty (by rfl) c.n_tuple bt_tuple) a_nil)))) (b_cons (s_if (t_bool (w_or (t_not (t_val (d_B (cD_isi) (by rfl) c.n_isinstance bt_isinstance (a_cons (d_var (i := 0) rfl (Or.inl rfl)) (a_cons (d_ty (by rfl) c.n_tuple bt_tuple) a_nil))))) (w_or1 (t_cmp (opD_ne hu) (d_B (cD_len) (by rfl) c.n_len bt_len (a_cons (d_var (i := 0) rfl (Or.inl rfl)) a_nil)) (d_B (cD_len) (by rfl) c.n_len bt_len (a_cons (d_var (i := 1) rfl (Or.inl rfl)) a_nil)) rfl)))) (b_one (s_ret d_bl)) b_nil)
      (b_one (s_ret (d_cmp (opD_eq0 hu) (d_lc rfl nd (i_zip (by rfl) c.n_zip (a_cons (d_var (i := 0) rfl (Or.inl rfl)) (a_cons (d_var (i := 1) rfl (Or.inl rfl)) a_nil))) (blkOk_by (own := [("one", 2), ("other", 3)]) (by kernel_rfl)) (by decide) (fun s H C cl fp => (g_tup rfl (gs_cons (g_name nd (i := 2) rfl (Or.inl rfl) (Or.inr rfl)) (gs_cons (g_name nd (i := 3) rfl (Or.inl rfl) (Or.inr rfl)) gs_nil)))) (fun s H C cl fp => (ts_one (t_not (t_val (d_call ih bd__law_same hr rfl takesW0 (a_cons (d_var (i := 2) rfl (Or.inl rfl)) (a_cons (d_var (i := 3) rfl (Or.inl rfl)) a_nil))))))) (fun s H C cl fp => d_int)) (d_lst a_nil) rfl)))) b_nil)
      (b_cons (s_if (t_bool (w_or (t_cmp opD_is (d_var (i := 1) rfl (Or.inl rfl)) d_non rfl) (w_or1 (t_val (d_B (cD_isi) (by rfl) c.n_isinstance bt_isinstance (a_cons (d_var (i := 1) rfl (Or.inl rfl)) (a_cons (d_ty (by rfl) c.n_bool bt_bool) a_nil))))))) (b_one (s_ret (d_cmp (opD_eq hu) (d_tup (a_cons (d_cmp opD_is (d_var (i := 0) rfl (Or.inl rfl)) d_non rfl) (a_cons (d_cmp opD_is (d_var (i := 0) rfl (Or.inl rfl)) d_bl rfl) (a_cons (d_cmp opD_is (d_var (i := 0) rfl (Or.inl rfl)) d_bl rfl) a_nil)))) (d_tup (a_cons (d_cmp opD_is (d_var (i := 1) rfl (Or.inl rfl)) d_non rfl) (a_cons (d_cmp opD_is (d_var (i := 1) rfl (Or.inl rfl)) d_bl rfl) (a_cons (d_cmp opD_is (d_var (i := 1) rfl (Or.inl rfl)) d_bl rfl) a_nil)))) rfl))) b_nil)
      (b_cons (s_if (t_bool (w_or (t_val (d_B (cD_isi) (by rfl) c.n_isinstance bt_isinstance (a_cons (d_var (i := 0) rfl (Or.inl rfl)) (a_cons (d_ty (by rfl) c.n_bool bt_bool) a_nil)))) (w_or1 (t_not (t_val (d_B (cD_isi) (by rfl) c.n_isinstance bt_isinstance (a_cons (d_var (i := 0) rfl (Or.inl rfl)) (a_cons (d_tup (a_cons (d_ty (by rfl) c.n_int bt_int) (a_cons (d_ty (by rfl) c.n_str bt_str) a_nil))) a_nil)))))))) (b_one (s_ret d_bl)) b_nil)
      (b_one (s_ret (d_and (d_cmp (opD_eq hu) (d_B (cD_isi) (by rfl) c.n_isinstance bt_isinstance (a_cons (d_var (i := 0) rfl (Or.inl rfl)) (a_cons (d_ty (by rfl) c.n_str bt_str) a_nil))) (d_B (cD_isi) (by rfl) c.n_isinstance bt_isinstance (a_cons (d_var (i := 1) rfl (Or.inl rfl)) (a_cons (d_ty (by rfl) c.n_str bt_str) a_nil))) rfl) (d_one (d_cmp (opD_eq hu) (d_var (i := 0) rfl (Or.inl rfl)) (d_var (i := 1) rfl (Or.inl rfl)) rfl))))))))

abbrev N__law_shuffled : List Str := ["deck", "some", "left", "found"]
theorem sc__law_shuffled : FnScope N__law_shuffled ["deck", "some"] (defScope st__law_shuffled) := ⟨rfl, rfl, rfl, by decide +kernel, rfl, by decide +kernel, by decide +kernel⟩
theorem bd__law_shuffled : BindOk "_law_shuffled" st__law_shuffled ["deck", "some"] := fun _ _ _ _ _ _ us hl => match us, hl with | [_, _], _ => rfl
noncomputable def b__law_shuffled : SM :=
      (sSeq (sPar [2, 3] (aCons (mListN (aCons (mVar 1) aNil)) (aCons (mNew aNil) aNil)))
      (sSeq (sWhile (bVal (mOp ne0D (mVar 2) (mLst aNil))) (sDrop (mM "list" appD (mVar 3) (aCons (mM "list" popD (mVar 2) (aCons (mCall 2 m__law_draw (aCons (mVar 0) (aCons (mB lenD (aCons (mVar 2) aNil)) aNil))) aNil)) aNil))))
      (sRet (mVar 3))))
noncomputable def m__law_shuffled : FM := (fun ds S => gcF S (fnP N__law_shuffled.length b__law_shuffled ds S))
theorem ok__law_shuffled (c : Fx K mg) : FD P w K mg base "_law_shuffled" st__law_shuffled ["deck", "some"] 2 m__law_shuffled := by
    obtain ⟨f, fd, G⟩ := c.g__law_shuffled
    refine (fd_mk (k := 1) G sc__law_shuffled fun X W cdv A outer s H E eX eW tk hp hr => ?_).gcF
    have hu := hr.units
    have hu65 : X.A.units + 65 < cLine := by have := hr.un; omega
    have hu1 : X.A.units + 1 < cLine := by have := hr.un; omega
    have nd := sc__law_shuffled.nd
    subst eX
    exact (b_cons (s_par2 (i := 2) (j := 3) rfl nd rfl rfl (by decide) rfl rfl (a_cons (d_listN (by rfl) c.n_list (a_cons (d_var (i := 1) rfl (Or.inl rfl)) a_nil)) (a_cons (d_new a_nil) a_nil)))
      (b_cons (s_while hp (t_cmp (opD_ne0 hu) (d_var (i := 2) rfl (Or.inl rfl)) (d_lst a_nil) rfl) (b_one (s_drop (d_bm PySem.F.plainAttrs_list PySem.F.slot_list_append PySem.F.type_list_append mD_app (d_var (i := 3) rfl (Or.inl rfl)) (a_cons (d_bm PySem.F.plainAttrs_list PySem.F.slot_list_pop PySem.F.type_list_pop mD_pop (d_var (i := 2) rfl (Or.inl rfl)) (a_cons (d_call (ok__law_draw c) bd__law_draw (hr.mono (by decide)) rfl tk (a_cons (d_var (i := 0) rfl (Or.inl rfl)) (a_cons (d_B (cD_len) (by rfl) c.n_len bt_len (a_cons (d_var (i := 2) rfl (Or.inl rfl)) a_nil)) a_nil))) a_nil)) a_nil)))))
      (b_one (s_ret (d_var (i := 3) rfl (Or.inl rfl))))))

abbrev N__law_odd : List Str := ["deck", "it", "some"]
theorem sc__law_odd : FnScope N__law_odd ["deck", "it"] (defScope st__law_odd) := ⟨rfl, rfl, rfl, by decide +kernel, rfl, by decide +kernel, by decide +kernel⟩
theorem bd__law_odd : BindOk "_law_odd" st__law_odd ["deck", "it"] := fun _ _ _ _ _ _ us hl => match us, hl with | [_, _], _ => rfl
noncomputable def b__law_odd : SM :=
      (sSeq (sAsg (mLst (aCons (mC .non) (aCons (mC (.bl true)) (aCons (mC (.bl false)) (aCons (mC (.int 0)) (aCons (mC (.int 1)) (aCons (mUn negD (mC (.int 1))) (aCons (mC (.int 2)) (aCons (mC (.int 100)) (aCons (mOp powD (mC (.int 10)) (mC (.int 30))) (aCons (mC (.str "")) (aCons (mC (.str "clear")) (aCons (mC (.str "clash")) (aCons (mTup aNil) (aCons (mTup (aCons (mTup aNil) aNil)) (aCons (mLst aNil) (aCons mDic0 (aCons (mTup (aCons (mC (.int 0)) aNil)) (aCons (mLst (aCons (mC (.int 0)) aNil)) (aCons (mDic (pCons (mC (.str "a")) (mC (.int 1)) pNil)) aNil)))))))))))))))))))) (gN 2))
      (sSeq (sIf (bVal (mB isiD (aCons (mVar 1) (aCons (mC (.ty "tuple")) aNil)))) (sAsg (mOp addD (mVar 2) (mOp mulD (mLst (aCons (mB listD (aCons (mVar 1) aNil)) (aCons (mOp addD (mVar 1) (mTup (aCons (mC (.int 0)) aNil))) (aCons (mSlA (mVar 1) (oSome (mC (.int 1))) oNone) (aCons (mSlA (mVar 1) oNone (oSome (mUn negD (mC (.int 1))))) (aCons (mRevA (mVar 1)) (aCons (mOp addD (mVar 1) (mSlA (mVar 1) oNone (oSome (mC (.int 1))))) (aCons (mTup (aCons (mVar 1) aNil)) (aCons (mOp addD (mSlA (mVar 1) oNone (oSome (mC (.int 1)))) (mVar 1)) aNil))))))))) (mC (.int 3)))) (gN 2)) (sIf (bVal (mB isiD (aCons (mVar 1) (aCons (mC (.ty "int")) aNil)))) (sAsg (mOp addD (mVar 2) (mOp mulD (mLst (aCons (mOp addD (mVar 1) (mC (.int 1))) (aCons (mOp subD (mVar 1) (mC (.int 1))) (aCons (mUn negD (mVar 1)) (aCons (mOp eqD (mVar 1) (mC (.int 1))) (aCons (mLst (aCons (mVar 1) aNil)) (aCons (mTup (aCons (mVar 1) aNil)) (aCons (mB strD (aCons (mVar 1) aNil)) (aCons (mOp addD (mOp powD (mC (.int 10)) (mC (.int 9))) (mVar 1)) aNil))))))))) (mC (.int 3)))) (gN 2)) (sIf (bVal (mB isiD (aCons (mVar 1) (aCons (mC (.ty "str")) aNil)))) (sAsg (mOp addD (mVar 2) (mOp mulD (mLst (aCons (mOp addD (mVar 1) (mC (.str "a"))) (aCons (mOp addD (mVar 1) (mC (.str " "))) (aCons (mSlA (mVar 1) (oSome (mC (.int 1))) oNone) (aCons (mLst (aCons (mVar 1) aNil)) (aCons (mTup (aCons (mVar 1) aNil)) (aCons (mOp addD (mVar 1) (mVar 1)) aNil))))))) (mC (.int 3)))) (gN 2)) sNil)))
      (sRet (mCall 2 m__law_pick (aCons (mVar 0) (aCons (mVar 2) aNil))))))
noncomputable def m__law_odd : FM := fnP N__law_odd.length b__law_odd
theorem ok__law_odd (c : Fx K mg) : FD P w K mg base "_law_odd" st__law_odd ["deck", "it"] 3 m__law_odd := by
    obtain ⟨f, fd, G⟩ := c.g__law_odd
    refine (fd_mk (k := 2) G sc__law_odd fun X W cdv A outer s H E eX eW tk hp hr => ?_)
    have hu := hr.units
    have hu65 : X.A.units + 65 < cLine := by have := hr.un; omega
    have hu1 : X.A.units + 1 < cLine := by have := hr.un; omega
    have nd := sc__law_odd.nd
    subst eX
    exact (b_cons (s_set nd (i := 2) rfl (Or.inl rfl) (Or.inr rfl) (d_lst (a_cons d_non (a_cons d_bl (a_cons d_bl (a_cons d_int (a_cons d_int (a_cons (d_un unD_neg d_int) (a_cons d_int (a_cons d_int (a_cons (d_bin opD_pow d_int d_int) (a_cons d_str (a_cons d_str (a_cons d_str (a_cons (d_tup a_nil) (a_cons (d_tup (a_cons (d_tup a_nil) a_nil)) (a_cons (d_lst a_nil) (a_cons d_dic0 (a_cons (d_tup (a_cons d_int a_nil)) (a_cons (d_lst (a_cons d_int a_nil)) (a_cons (d_dic (p_cons d_str d_int p_nil)) a_nil)))))))))))))))))))))
      (b_cons (s_if (t_val (d_B (cD_isi) (by rfl) c.n_isinstance bt_isinstance (a_cons (d_var (i := 1) rfl (Or.inl rfl)) (a_cons (d_ty (by rfl) c.n_tuple bt_tuple) a_nil)))) (b_one (s_set nd (i := 2) rfl (Or.inl rfl) (Or.inr rfl) (d_bin opD_add (d_var (i := 2) rfl (Or.inl rfl)) (d_bin opD_mul (d_lst (a_cons (d_Ty (cD_list) (by rfl) c.n_list bt_list (a_cons (d_var (i := 1) rfl (Or.inl rfl)) a_nil)) (a_cons (d_bin opD_add (d_var (i := 1) rfl (Or.inl rfl)) (d_tup (a_cons d_int a_nil))) (a_cons (d_slA (d_var (i := 1) rfl (Or.inl rfl)) (o_some d_int) o_none) (a_cons (d_slA (d_var (i := 1) rfl (Or.inl rfl)) o_none (o_some (d_un unD_neg d_int))) (a_cons (d_revA (d_var (i := 1) rfl (Or.inl rfl))) (a_cons (d_bin opD_add (d_var (i := 1) rfl (Or.inl rfl)) (d_slA (d_var (i := 1) rfl (Or.inl rfl)) o_none (o_some d_int))) (a_cons (d_tup (a_cons (d_var (i := 1) rfl (Or.inl rfl)) a_nil)) (a_cons (d_bin opD_add (d_slA (d_var (i := 1) rfl (Or.inl rfl)) o_none (o_some d_int)) (d_var (i := 1) rfl (Or.inl rfl))) a_nil))))))))) d_int)))) (b_one (s_if (t_val (d_B (cD_isi) (by rfl) c.n_isinstance bt_isinstance (a_cons (d_var (i := 1) rfl (Or.inl rfl)) (a_cons (d_ty (by rfl) c.n_int bt_int) a_nil)))) (b_one (s_set nd (i := 2) rfl (Or.inl rfl) (Or.inr rfl) (d_bin opD_add (d_var (i := 2) rfl (Or.inl rfl)) (d_bin opD_mul (d_lst (a_cons (d_bin opD_add (d_var (i := 1) rfl (Or.inl rfl)) d_int) (a_cons (d_bin opD_sub (d_var (i := 1) rfl (Or.inl rfl)) d_int) (a_cons (d_un unD_neg (d_var (i := 1) rfl (Or.inl rfl))) (a_cons (d_cmp (opD_eq hu) (d_var (i := 1) rfl (Or.inl rfl)) d_int rfl) (a_cons (d_lst (a_cons (d_var (i := 1) rfl (Or.inl rfl)) a_nil)) (a_cons (d_tup (a_cons (d_var (i := 1) rfl (Or.inl rfl)) a_nil)) (a_cons (d_Ty (cD_str) (by rfl) c.n_str bt_str (a_cons (d_var (i := 1) rfl (Or.inl rfl)) a_nil)) (a_cons (d_bin opD_add (d_bin opD_pow d_int d_int) (d_var (i := 1) rfl (Or.inl rfl))) a_nil))))))))) d_int)))) (b_one (s_if (t_val (d_B (cD_isi) (by rfl) c.n_isinstance bt_isinstance (a_cons (d_var (i := 1) rfl (Or.inl rfl)) (a_cons (d_ty (by rfl) c.n_str bt_str) a_nil)))) (b_one (s_set nd (i := 2) rfl (Or.inl rfl) (Or.inr rfl) (d_bin opD_add (d_var (i := 2) rfl (Or.inl rfl)) (d_bin opD_mul (d_lst (a_cons (d_bin opD_add (d_var (i := 1) rfl (Or.inl rfl)) d_str) (a_cons (d_bin opD_add (d_var (i := 1) rfl (Or.inl rfl)) d_str) (a_cons (d_slA (d_var (i := 1) rfl (Or.inl rfl)) (o_some d_int) o_none) (a_cons (d_lst (a_cons (d_var (i := 1) rfl (Or.inl rfl)) a_nil)) (a_cons (d_tup (a_cons (d_var (i := 1) rfl (Or.inl rfl)) a_nil)) (a_cons (d_bin opD_add (d_var (i := 1) rfl (Or.inl rfl)) (d_var (i := 1) rfl (Or.inl rfl))) a_nil))))))) d_int)))) b_nil)))))
      (b_one (s_ret (d_call (ok__law_pick c) bd__law_pick (hr.mono (by decide)) rfl tk (a_cons (d_var (i := 0) rfl (Or.inl rfl)) (a_cons (d_var (i := 2) rfl (Or.inl rfl)) a_nil)))))))

abbrev N__law_bent : List Str := ["deck", "it", "at"]
theorem sc__law_bent : FnScope N__law_bent ["deck", "it"] (defScope st__law_bent) := ⟨rfl, rfl, rfl, by decide +kernel, rfl, by decide +kernel, by decide +kernel⟩
theorem bd__law_bent : BindOk "_law_bent" st__law_bent ["deck", "it"] := fun _ _ _ _ _ _ us hl => match us, hl with | [_, _], _ => rfl
noncomputable def b__law_bent (mr : FM) : SM :=
      (sSeq (sIf (bOr (bNot (bVal (mB isiD (aCons (mVar 1) (aCons (mC (.ty "tuple")) aNil))))) (bOr (bVal (mOp eq0D (mVar 1) (mTup aNil))) (bVal (mOp eqD (mCall 2 m__law_draw (aCons (mVar 0) (aCons (mC (.int 6)) aNil))) (mC (.int 0)))))) (sRet (mCall 2 m__law_odd (aCons (mVar 0) (aCons (mVar 1) aNil)))) sNil)
      (sSeq (sAsg (mCall 2 m__law_draw (aCons (mVar 0) (aCons (mB lenD (aCons (mVar 1) aNil)) aNil))) (gN 2))
      (sRet (mOp addD (mOp addD (mSl (mVar 1) oNone (oSome (mVar 2))) (mTup (aCons (mCall 2 mr (aCons (mVar 0) (aCons (mOp ixD (mVar 1) (mVar 2)) aNil))) aNil))) (mSl (mVar 1) (oSome (mOp addD (mVar 2) (mC (.int 1)))) oNone)))))
noncomputable def m__law_bent : Nat → FM
  | 0 => fnP N__law_bent.length sBad
  | k + 1 => fnP N__law_bent.length (b__law_bent (m__law_bent k))
theorem ok__law_bent (c : Fx K mg) : ∀ n : Nat, FD P w K mg base "_law_bent" st__law_bent ["deck", "it"] (n + 4) (m__law_bent n)
  | 0 => by
    obtain ⟨f, fd, G⟩ := c.g__law_bent
    exact (fd_mk (k := 3) G sc__law_bent fun X W cdv A outer s H E eX eW tk hp hr => b_bad)
  | k + 1 => by
    have ih := ok__law_bent c k
    obtain ⟨f, fd, G⟩ := c.g__law_bent
    refine (fd_mk (k := k + 4) G sc__law_bent fun X W cdv A outer s H E eX eW tk hp hr => ?_)
    have hu := hr.units
    have hu65 : X.A.units + 65 < cLine := by have := hr.un; omega
    have hu1 : X.A.units + 1 < cLine := by have := hr.un; omega
    have nd := sc__law_bent.nd
    subst eX
    exact (b_cons (s_if (t_bool (w_or (t_not (t_val (d_B (cD_isi) (by rfl) c.n_isinstance bt_isinstance (a_cons (d_var (i := 1) rfl (Or.inl rfl)) (a_cons (d_ty (by rfl) c.n_tuple bt_tuple) a_nil))))) (w_or (t_cmp (opD_eq0 hu) (d_var (i := 1) rfl (Or.inl rfl)) (d_tup a_nil) rfl) (w_or1 (t_cmp (opD_eq hu) (d_call (ok__law_draw c) bd__law_draw (hr.mono (by omega)) rfl tk (a_cons (d_var (i := 0) rfl (Or.inl rfl)) (a_cons d_int a_nil))) d_int rfl))))) (b_one (s_ret (d_call (ok__law_odd c) bd__law_odd (hr.mono (by omega)) rfl tk (a_cons (d_var (i := 0) rfl (Or.inl rfl)) (a_cons (d_var (i := 1) rfl (Or.inl rfl)) a_nil))))) b_nil)
      (b_cons (s_set nd (i := 2) rfl (Or.inl rfl) (Or.inr rfl) (d_call (ok__law_draw c) bd__law_draw (hr.mono (by omega)) rfl tk (a_cons (d_var (i := 0) rfl (Or.inl rfl)) (a_cons (d_B (cD_len) (by rfl) c.n_len bt_len (a_cons (d_var (i := 1) rfl (Or.inl rfl)) a_nil)) a_nil))))
      (b_one (s_ret (d_bin opD_add (d_bin opD_add (d_sl (d_var (i := 1) rfl (Or.inl rfl)) o_none (o_some (d_var (i := 2) rfl (Or.inl rfl)))) (d_tup (a_cons (d_call ih bd__law_bent hr rfl tk (a_cons (d_var (i := 0) rfl (Or.inl rfl)) (a_cons (d_ix hu1 (d_var (i := 1) rfl (Or.inl rfl)) (d_var (i := 2) rfl (Or.inl rfl)) (fun _ _ => rfl)) a_nil))) a_nil))) (d_sl (d_var (i := 1) rfl (Or.inl rfl)) (o_some (d_bin opD_add (d_var (i := 2) rfl (Or.inl rfl)) d_int)) o_none))))))

abbrev N__law_dart : List Str := ["deck"]
theorem sc__law_dart : FnScope N__law_dart ["deck"] (defScope st__law_dart) := ⟨rfl, rfl, rfl, by decide +kernel, rfl, by decide +kernel, by decide +kernel⟩
theorem bd__law_dart : BindOk "_law_dart" st__law_dart ["deck"] := fun _ _ _ _ _ _ us hl => match us, hl with | [_], _ => rfl
noncomputable def b__law_dart : SM :=
      (sRet (mCall 2 m__law_pick (aCons (mVar 0) (aCons (mLst (aCons (mC (.int 0)) (aCons (mC (.int 1)) (aCons (mCall 2 m__law_draw (aCons (mVar 0) (aCons (mC (.int 16)) aNil))) (aCons (mCall 2 m__law_draw (aCons (mVar 0) (aCons (mC (.int 16)) aNil))) (aCons (mOp powD (mC (.int 10)) (mC (.int 30))) aNil)))))) aNil))))
noncomputable def m__law_dart : FM := fnP N__law_dart.length b__law_dart
theorem ok__law_dart (c : Fx K mg) : FD P w K mg base "_law_dart" st__law_dart ["deck"] 3 m__law_dart := by
    obtain ⟨f, fd, G⟩ := c.g__law_dart
    refine (fd_mk (k := 2) G sc__law_dart fun X W cdv A outer s H E eX eW tk hp hr => ?_)
    have hu := hr.units
    have hu65 : X.A.units + 65 < cLine := by have := hr.un; omega
    have hu1 : X.A.units + 1 < cLine := by have := hr.un; omega
    have nd := sc__law_dart.nd
    subst eX
    exact (b_one (s_ret (d_call (ok__law_pick c) bd__law_pick (hr.mono (by decide)) rfl tk (a_cons (d_var (i := 0) rfl (Or.inl rfl)) (a_cons (d_lst (a_cons d_int (a_cons d_int (a_cons (d_call (ok__law_draw c) bd__law_draw (hr.mono (by decide)) rfl tk (a_cons (d_var (i := 0) rfl (Or.inl rfl)) (a_cons d_int a_nil))) (a_cons (d_call (ok__law_draw c) bd__law_draw (hr.mono (by decide)) rfl tk (a_cons (d_var (i := 0) rfl (Or.inl rfl)) (a_cons d_int a_nil))) (a_cons (d_bin opD_pow d_int d_int) a_nil)))))) a_nil)))))

abbrev N__law_claim : List Str := ["deck", "street", "way", "first", "count"]
theorem sc__law_claim : FnScope N__law_claim ["deck", "street"] (defScope st__law_claim) := ⟨rfl, rfl, rfl, by decide +kernel, rfl, by decide +kernel, by decide +kernel⟩
theorem bd__law_claim : BindOk "_law_claim" st__law_claim ["deck", "street"] := fun _ _ _ _ _ _ us hl => match us, hl with | [_, _], _ => rfl
noncomputable def b__law_claim : SM :=
      (sSeq (sAsg (mCall 2 m__law_draw (aCons (mVar 0) (aCons (mC (.int 5)) aNil))) (gN 2))
      (sSeq (sIf (bVal (mOp ltD (mVar 2) (mC (.int 2)))) (sRet (mTup (aCons (mVar 1) (aCons (mCall 2 m__law_draw (aCons (mVar 0) (aCons (mC (.int 30)) aNil))) (aCons (mOp addD (mC (.int 1)) (mCall 2 m__law_draw (aCons (mVar 0) (aCons (mC (.int 12)) aNil)))) (aCons (mOp addD (mC (.int 1)) (mCall 2 m__law_draw (aCons (mVar 0) (aCons (mC (.int 6)) aNil)))) (aCons (mCall 1 m__law_dart (aCons (mVar 0) aNil)) aNil))))))) sNil)
      (sSeq (sIf (bVal (mOp eqD (mVar 2) (mC (.int 2)))) (sRet (mTup (aCons (mVar 1) (aCons (mCall 2 m__law_draw (aCons (mVar 0) (aCons (mOp powD (mC (.int 10)) (mC (.int 6))) aNil))) (aCons (mOp addD (mC (.int 1)) (mCall 2 m__law_draw (aCons (mVar 0) (aCons (mOp powD (mC (.int 10)) (mC (.int 4))) aNil)))) (aCons (mOp addD (mC (.int 1)) (mCall 2 m__law_draw (aCons (mVar 0) (aCons (mC (.int 1000)) aNil)))) (aCons (mCall 1 m__law_dart (aCons (mVar 0) aNil)) aNil))))))) sNil)
      (sSeq (sIf (bVal (mOp eqD (mVar 2) (mC (.int 3)))) (sRet (mTup (aCons (mVar 1) (aCons (mOp subD (mOp powD (mC (.int 10)) (mC (.int 9))) (mCall 2 m__law_draw (aCons (mVar 0) (aCons (mC (.int 3)) aNil)))) (aCons (mOp subD (mOp powD (mC (.int 10)) (mC (.int 9))) (mCall 2 m__law_draw (aCons (mVar 0) (aCons (mC (.int 3)) aNil)))) (aCons (mOp subD (mOp powD (mC (.int 10)) (mC (.int 6))) (mCall 2 m__law_draw (aCons (mVar 0) (aCons (mC (.int 3)) aNil)))) (aCons (mCall 1 m__law_dart (aCons (mVar 0) aNil)) aNil))))))) sNil)
      (sSeq (sPar [3, 4] (aCons (mCall 2 m__law_pick (aCons (mVar 0) (aCons (mLst (aCons (mC (.int 0)) (aCons (mOp powD (mC (.int 10)) (mC (.int 9))) (aCons (mCall 2 m__law_draw (aCons (mVar 0) (aCons (mOp powD (mC (.int 10)) (mC (.int 9))) aNil))) aNil)))) aNil))) (aCons (mCall 2 m__law_pick (aCons (mVar 0) (aCons (mLst (aCons (mC (.int 1)) (aCons (mOp powD (mC (.int 10)) (mC (.int 9))) (aCons (mOp addD (mC (.int 1)) (mCall 2 m__law_draw (aCons (mVar 0) (aCons (mOp powD (mC (.int 10)) (mC (.int 9))) aNil)))) aNil)))) aNil))) aNil)))
      (sRet (mTup (aCons (mVar 1) (aCons (mVar 3) (aCons (mVar 4) (aCons (mCall 2 m__law_pick (aCons (mVar 0) (aCons (mLst (aCons (mC (.int 1)) (aCons (mOp powD (mC (.int 10)) (mC (.int 6))) (aCons (mOp addD (mC (.int 1)) (mCall 2 m__law_draw (aCons (mVar 0) (aCons (mOp powD (mC (.int 10)) (mC (.int 6))) aNil)))) aNil)))) aNil))) (aCons (mCall 1 m__law_dart (aCons (mVar 0) aNil)) aNil))))))))))))
noncomputable def m__law_claim : FM := fnP N__law_claim.length b__law_claim
theorem ok__law_claim (c : Fx K mg) : FD P w K mg base "_law_claim" st__law_claim ["deck", "street"] 4 m__law_claim := by
    obtain ⟨f, fd, G⟩ := c.g__law_claim
    refine (fd_mk (k := 3) G sc__law_claim fun X W cdv A outer s H E eX eW tk hp hr => ?_)
    have hu := hr.units
    have hu65 : X.A.units + 65 < cLine := by have := hr.un; omega
    have hu1 : X.A.units + 1 < cLine := by have := hr.un; omega
    have nd := sc__law_claim.nd
    subst eX
    exact (b_cons (s_set nd (i := 2) rfl (Or.inl rfl) (Or.inr rfl) (d_call (ok__law_draw c) bd__law_draw (hr.mono (by decide)) rfl tk (a_cons (d_var (i := 0) rfl (Or.inl rfl)) (a_cons d_int a_nil))))
      (b_cons (s_if (t_cmp opD_lt (d_var (i := 2) rfl (Or.inl rfl)) d_int rfl) (b_one (s_ret (d_tup (a_cons (d_var (i := 1) rfl (Or.inl rfl)) (a_cons (d_call (ok__law_draw c) bd__law_draw (hr.mono (by decide)) rfl tk (a_cons (d_var (i := 0) rfl (Or.inl rfl)) (a_cons d_int a_nil))) (a_cons (d_bin opD_add d_int (d_call (ok__law_draw c) bd__law_draw (hr.mono (by decide)) rfl tk (a_cons (d_var (i := 0) rfl (Or.inl rfl)) (a_cons d_int a_nil)))) (a_cons (d_bin opD_add d_int (d_call (ok__law_draw c) bd__law_draw (hr.mono (by decide)) rfl tk (a_cons (d_var (i := 0) rfl (Or.inl rfl)) (a_cons d_int a_nil)))) (a_cons (d_call (ok__law_dart c) bd__law_dart (hr.mono (by decide)) rfl tk (a_cons (d_var (i := 0) rfl (Or.inl rfl)) a_nil)) a_nil)))))))) b_nil)
      (b_cons (s_if (t_cmp (opD_eq hu) (d_var (i := 2) rfl (Or.inl rfl)) d_int rfl) (b_one (s_ret (d_tup (a_cons (d_var (i := 1) rfl (Or.inl rfl)) (a_cons (d_call (ok__law_draw c) bd__law_draw (hr.mono (by decide)) rfl tk (a_cons (d_var (i := 0) rfl (Or.inl rfl)) (a_cons (d_bin opD_pow d_int d_int) a_nil))) (a_cons (d_bin opD_add d_int (d_call (ok__law_draw c) bd__law_draw (hr.mono (by decide)) rfl tk (a_cons (d_var (i := 0) rfl (Or.inl rfl)) (a_cons (d_bin opD_pow d_int d_int) a_nil)))) (a_cons (d_bin opD_add d_int (d_call (ok__law_draw c) bd__law_draw (hr.mono (by decide)) rfl tk (a_cons (d_var (i := 0) rfl (Or.inl rfl)) (a_cons d_int a_nil)))) (a_cons (d_call (ok__law_dart c) bd__law_dart (hr.mono (by decide)) rfl tk (a_cons (d_var (i := 0) rfl (Or.inl rfl)) a_nil)) a_nil)))))))) b_nil)
      (b_cons (s_if (t_cmp (opD_eq hu) (d_var (i := 2) rfl (Or.inl rfl)) d_int rfl) (b_one (s_ret (d_tup (a_cons (d_var (i := 1) rfl (Or.inl rfl)) (a_cons (d_bin opD_sub (d_bin opD_pow d_int d_int) (d_call (ok__law_draw c) bd__law_draw (hr.mono (by decide)) rfl tk (a_cons (d_var (i := 0) rfl (Or.inl rfl)) (a_cons d_int a_nil)))) (a_cons (d_bin opD_sub (d_bin opD_pow d_int d_int) (d_call (ok__law_draw c) bd__law_draw (hr.mono (by decide)) rfl tk (a_cons (d_var (i := 0) rfl (Or.inl rfl)) (a_cons d_int a_nil)))) (a_cons (d_bin opD_sub (d_bin opD_pow d_int d_int) (d_call (ok__law_draw c) bd__law_draw (hr.mono (by decide)) rfl tk (a_cons (d_var (i := 0) rfl (Or.inl rfl)) (a_cons d_int a_nil)))) (a_cons (d_call (ok__law_dart c) bd__law_dart (hr.mono (by decide)) rfl tk (a_cons (d_var (i := 0) rfl (Or.inl rfl)) a_nil)) a_nil)))))))) b_nil)
      (b_cons (s_par2 (i := 3) (j := 4) rfl nd rfl rfl (by decide) rfl rfl (a_cons (d_call (ok__law_pick c) bd__law_pick (hr.mono (by decide)) rfl tk (a_cons (d_var (i := 0) rfl (Or.inl rfl)) (a_cons (d_lst (a_cons d_int (a_cons (d_bin opD_pow d_int d_int) (a_cons (d_call (ok__law_draw c) bd__law_draw (hr.mono (by decide)) rfl tk (a_cons (d_var (i := 0) rfl (Or.inl rfl)) (a_cons (d_bin opD_pow d_int d_int) a_nil))) a_nil)))) a_nil))) (a_cons (d_call (ok__law_pick c) bd__law_pick (hr.mono (by decide)) rfl tk (a_cons (d_var (i := 0) rfl (Or.inl rfl)) (a_cons (d_lst (a_cons d_int (a_cons (d_bin opD_pow d_int d_int) (a_cons (d_bin opD_add d_int (d_call (ok__law_draw c) bd__law_draw (hr.mono (by decide)) rfl tk (a_cons (d_var (i := 0) rfl (Or.inl rfl)) (a_cons (d_bin opD_pow d_int d_int) a_nil)))) a_nil)))) a_nil))) a_nil)))
      (b_one (s_ret (d_tup (a_cons (d_var (i := 1) rfl (Or.inl rfl)) (a_cons (d_var (i := 3) rfl (Or.inl rfl)) (a_cons (d_var (i := 4) rfl (Or.inl rfl)) (a_cons (d_call (ok__law_pick c) bd__law_pick (hr.mono (by decide)) rfl tk (a_cons (d_var (i := 0) rfl (Or.inl rfl)) (a_cons (d_lst (a_cons d_int (a_cons (d_bin opD_pow d_int d_int) (a_cons (d_bin opD_add d_int (d_call (ok__law_draw c) bd__law_draw (hr.mono (by decide)) rfl tk (a_cons (d_var (i := 0) rfl (Or.inl rfl)) (a_cons (d_bin opD_pow d_int d_int) a_nil)))) a_nil)))) a_nil))) (a_cons (d_call (ok__law_dart c) bd__law_dart (hr.mono (by decide)) rfl tk (a_cons (d_var (i := 0) rfl (Or.inl rfl)) a_nil)) a_nil)))))))))))))

abbrev N__law_meeting : List Str := ["deck", "claim", "first", "count", "step", "number", "stride", "least", "most", "back", "many"]
theorem sc__law_meeting : FnScope N__law_meeting ["deck", "claim"] (defScope st__law_meeting) := ⟨rfl, rfl, rfl, by decide +kernel, rfl, by decide +kernel, by decide +kernel⟩
theorem bd__law_meeting : BindOk "_law_meeting" st__law_meeting ["deck", "claim"] := fun _ _ _ _ _ _ us hl => match us, hl with | [_, _], _ => rfl
noncomputable def b__law_meeting : SM :=
      (sSeq (sAsg (mSl (mVar 1) (oSome (mC (.int 1))) (oSome (mC (.int 4)))) (gT [(gN 2), (gN 3), (gN 4)]))
      (sSeq (sAsg (mOp addD (mVar 2) (mOp mulD (mCall 2 m__law_pick (aCons (mVar 0) (aCons (mLst (aCons (mC (.int 0)) (aCons (mOp subD (mVar 3) (mC (.int 1))) (aCons (mCall 2 m__law_draw (aCons (mVar 0) (aCons (mVar 3) aNil))) aNil)))) aNil))) (mVar 4))) (gN 5))
      (sSeq (sFor (iSeq (mLst (aCons (mCall 2 m__law_pick (aCons (mVar 0) (aCons (mLst (aCons (mC (.int 1)) (aCons (mC (.int 2)) (aCons (mVar 4) (aCons (mOp powD (mC (.int 10)) (mC (.int 6))) (aCons (mOp addD (mC (.int 1)) (mCall 2 m__law_draw (aCons (mVar 0) (aCons (mOp powD (mC (.int 10)) (mC (.int 6))) aNil)))) (aCons (mOp addD (mC (.int 1)) (mCall 2 m__law_draw (aCons (mVar 0) (aCons (mC (.int 50)) aNil)))) aNil))))))) aNil))) (aCons (mOp powD (mC (.int 10)) (mC (.int 6))) aNil)))) (gN 6) (sSeq (sPar [7, 8] (aCons (mB max2D (aCons (mC (.int 0)) (aCons (mUn negD (mOp fdivD (mOp subD (mOp powD (mC (.int 10)) (mC (.int 9))) (mVar 5)) (mVar 6))) aNil))) (aCons (mB min2D (aCons (mOp subD (mOp powD (mC (.int 10)) (mC (.int 9))) (mC (.int 1))) (aCons (mOp fdivD (mVar 5) (mVar 6)) aNil))) aNil)))
      (sIf (bVal (mOp leD (mVar 7) (mVar 8))) sBk sNil)))
      (sSeq (sAsg (mCall 2 m__law_pick (aCons (mVar 0) (aCons (mLst (aCons (mVar 7) (aCons (mVar 8) (aCons (mOp addD (mVar 7) (mCall 2 m__law_draw (aCons (mVar 0) (aCons (mOp addD (mOp subD (mVar 8) (mVar 7)) (mC (.int 1))) aNil)))) (aCons (mB min2D (aCons (mVar 8) (aCons (mOp addD (mVar 7) (mCall 2 m__law_draw (aCons (mVar 0) (aCons (mC (.int 9)) aNil)))) aNil))) aNil))))) aNil))) (gN 9))
      (sSeq (sAsg (mB min2D (aCons (mOp powD (mC (.int 10)) (mC (.int 9))) (aCons (mOp addD (mVar 9) (mCall 2 m__law_pick (aCons (mVar 0) (aCons (mLst (aCons (mC (.int 1)) (aCons (mC (.int 1)) (aCons (mOp addD (mC (.int 1)) (mCall 2 m__law_draw (aCons (mVar 0) (aCons (mC (.int 5)) aNil)))) (aCons (mOp powD (mC (.int 10)) (mC (.int 9))) (aCons (mC (.int 0)) aNil)))))) aNil)))) aNil))) (gN 10))
      (sRet (mTup (aCons (mOp ixD (mVar 1) (mC (.int 0))) (aCons (mOp subD (mVar 5) (mOp mulD (mVar 9) (mVar 6))) (aCons (mB max2D (aCons (mC (.int 1)) (aCons (mVar 10) aNil))) (aCons (mVar 6) (aCons (mCall 1 m__law_dart (aCons (mVar 0) aNil)) aNil))))))))))))
noncomputable def m__law_meeting : FM := fnP N__law_meeting.length b__law_meeting
theorem ok__law_meeting (c : Fx K mg) : FD P w K mg base "_law_meeting" st__law_meeting ["deck", "claim"] 4 m__law_meeting := by
    obtain ⟨f, fd, G⟩ := c.g__law_meeting
    refine (fd_mk (k := 3) G sc__law_meeting fun X W cdv A outer s H E eX eW tk hp hr => ?_)
    have hu := hr.units
    have hu65 : X.A.units + 65 < cLine := by have := hr.un; omega
    have hu1 : X.A.units + 1 < cLine := by have := hr.un; omega
    have nd := sc__law_meeting.nd
    subst eX
    exact (b_cons (s_asg (d_sl (d_var (i := 1) rfl (Or.inl rfl)) (o_some d_int) (o_some d_int)) (g_tup rfl (gs_cons (g_name nd (i := 2) rfl (Or.inl rfl) (Or.inr rfl)) (gs_cons (g_name nd (i := 3) rfl (Or.inl rfl) (Or.inr rfl)) (gs_cons (g_name nd (i := 4) rfl (Or.inl rfl) (Or.inr rfl)) gs_nil)))))
      (b_cons (s_set nd (i := 5) rfl (Or.inl rfl) (Or.inr rfl) (d_bin opD_add (d_var (i := 2) rfl (Or.inl rfl)) (d_bin opD_mul (d_call (ok__law_pick c) bd__law_pick (hr.mono (by decide)) rfl tk (a_cons (d_var (i := 0) rfl (Or.inl rfl)) (a_cons (d_lst (a_cons d_int (a_cons (d_bin opD_sub (d_var (i := 3) rfl (Or.inl rfl)) d_int) (a_cons (d_call (ok__law_draw c) bd__law_draw (hr.mono (by decide)) rfl tk (a_cons (d_var (i := 0) rfl (Or.inl rfl)) (a_cons (d_var (i := 3) rfl (Or.inl rfl)) a_nil))) a_nil)))) a_nil))) (d_var (i := 4) rfl (Or.inl rfl)))))
      (b_cons (s_for hp rfl (i_seq (d_lst (a_cons (d_call (ok__law_pick c) bd__law_pick (hr.mono (by decide)) rfl tk (a_cons (d_var (i := 0) rfl (Or.inl rfl)) (a_cons (d_lst (a_cons d_int (a_cons d_int (a_cons (d_var (i := 4) rfl (Or.inl rfl)) (a_cons (d_bin opD_pow d_int d_int) (a_cons (d_bin opD_add d_int (d_call (ok__law_draw c) bd__law_draw (hr.mono (by decide)) rfl tk (a_cons (d_var (i := 0) rfl (Or.inl rfl)) (a_cons (d_bin opD_pow d_int d_int) a_nil)))) (a_cons (d_bin opD_add d_int (d_call (ok__law_draw c) bd__law_draw (hr.mono (by decide)) rfl tk (a_cons (d_var (i := 0) rfl (Or.inl rfl)) (a_cons d_int a_nil)))) a_nil))))))) a_nil))) (a_cons (d_bin opD_pow d_int d_int) a_nil)))) (g_name nd (i := 6) rfl (Or.inl rfl) (Or.inr rfl)) (b_cons (s_par2 (i := 7) (j := 8) rfl nd rfl rfl (by decide) rfl rfl (a_cons (d_B (cD_max2 rfl) (by rfl) c.n_max bt_max (a_cons d_int (a_cons (d_un unD_neg (d_bin opD_fdiv (d_bin opD_sub (d_bin opD_pow d_int d_int) (d_var (i := 5) rfl (Or.inl rfl))) (d_var (i := 6) rfl (Or.inl rfl)))) a_nil))) (a_cons (d_B (cD_min2 rfl) (by rfl) c.n_min bt_min (a_cons (d_bin opD_sub (d_bin opD_pow d_int d_int) d_int) (a_cons (d_bin opD_fdiv (d_var (i := 5) rfl (Or.inl rfl)) (d_var (i := 6) rfl (Or.inl rfl))) a_nil))) a_nil)))
      (b_one (s_if (t_cmp opD_le (d_var (i := 7) rfl (Or.inl rfl)) (d_var (i := 8) rfl (Or.inl rfl)) rfl) (b_one s_bk) b_nil))))
      (b_cons (s_set nd (i := 9) rfl (Or.inl rfl) (Or.inr rfl) (d_call (ok__law_pick c) bd__law_pick (hr.mono (by decide)) rfl tk (a_cons (d_var (i := 0) rfl (Or.inl rfl)) (a_cons (d_lst (a_cons (d_var (i := 7) rfl (Or.inl rfl)) (a_cons (d_var (i := 8) rfl (Or.inl rfl)) (a_cons (d_bin opD_add (d_var (i := 7) rfl (Or.inl rfl)) (d_call (ok__law_draw c) bd__law_draw (hr.mono (by decide)) rfl tk (a_cons (d_var (i := 0) rfl (Or.inl rfl)) (a_cons (d_bin opD_add (d_bin opD_sub (d_var (i := 8) rfl (Or.inl rfl)) (d_var (i := 7) rfl (Or.inl rfl))) d_int) a_nil)))) (a_cons (d_B (cD_min2 rfl) (by rfl) c.n_min bt_min (a_cons (d_var (i := 8) rfl (Or.inl rfl)) (a_cons (d_bin opD_add (d_var (i := 7) rfl (Or.inl rfl)) (d_call (ok__law_draw c) bd__law_draw (hr.mono (by decide)) rfl tk (a_cons (d_var (i := 0) rfl (Or.inl rfl)) (a_cons d_int a_nil)))) a_nil))) a_nil))))) a_nil))))
      (b_cons (s_set nd (i := 10) rfl (Or.inl rfl) (Or.inr rfl) (d_B (cD_min2 rfl) (by rfl) c.n_min bt_min (a_cons (d_bin opD_pow d_int d_int) (a_cons (d_bin opD_add (d_var (i := 9) rfl (Or.inl rfl)) (d_call (ok__law_pick c) bd__law_pick (hr.mono (by decide)) rfl tk (a_cons (d_var (i := 0) rfl (Or.inl rfl)) (a_cons (d_lst (a_cons d_int (a_cons d_int (a_cons (d_bin opD_add d_int (d_call (ok__law_draw c) bd__law_draw (hr.mono (by decide)) rfl tk (a_cons (d_var (i := 0) rfl (Or.inl rfl)) (a_cons d_int a_nil)))) (a_cons (d_bin opD_pow d_int d_int) (a_cons d_int a_nil)))))) a_nil)))) a_nil))))
      (b_one (s_ret (d_tup (a_cons (d_ix hu1 (d_var (i := 1) rfl (Or.inl rfl)) d_int (fun _ _ => rfl)) (a_cons (d_bin opD_sub (d_var (i := 5) rfl (Or.inl rfl)) (d_bin opD_mul (d_var (i := 9) rfl (Or.inl rfl)) (d_var (i := 6) rfl (Or.inl rfl)))) (a_cons (d_B (cD_max2 rfl) (by rfl) c.n_max bt_max (a_cons d_int (a_cons (d_var (i := 10) rfl (Or.inl rfl)) a_nil))) (a_cons (d_var (i := 6) rfl (Or.inl rfl)) (a_cons (d_call (ok__law_dart c) bd__law_dart (hr.mono (by decide)) rfl tk (a_cons (d_var (i := 0) rfl (Or.inl rfl)) a_nil)) a_nil)))))))))))))

abbrev N__law_woven : List Str := ["deck", "street", "step", "found", "at", "count", "earlier", "first"]
theorem sc__law_woven : FnScope N__law_woven ["deck", "street"] (defScope st__law_woven) := ⟨rfl, rfl, rfl, by decide +kernel, rfl, by decide +kernel, by decide +kernel⟩
theorem bd__law_woven : BindOk "_law_woven" st__law_woven ["deck", "street"] := fun _ _ _ _ _ _ us hl => match us, hl with | [_, _], _ => rfl
noncomputable def b__law_woven : SM :=
      (sSeq (sPar [2, 3] (aCons (mOp addD (mC (.int 12)) (mCall 2 m__law_draw (aCons (mVar 0) (aCons (mC (.int 90)) aNil)))) (aCons (mNew aNil) aNil)))
      (sSeq (sFor (iRng1 (aCons (mOp addD (mC (.int 1)) (mCall 2 m__law_draw (aCons (mVar 0) (aCons (mC (.int 11)) aNil)))) aNil)) (gN 4) (sSeq (sAsg (mCall 2 m__law_pick (aCons (mVar 0) (aCons (mLst (aCons (mC (.int 1)) (aCons (mC (.int 3)) (aCons (mC (.int 40)) (aCons (mOp powD (mC (.int 10)) (mC (.int 6))) (aCons (mOp addD (mC (.int 1)) (mCall 2 m__law_draw (aCons (mVar 0) (aCons (mOp powD (mC (.int 10)) (mC (.int 5))) aNil)))) aNil)))))) aNil))) (gN 5))
      (sDrop (mM "list" appD (mVar 3) (aCons (mTup (aCons (mVar 1) (aCons (mOp addD (mOp addD (mC (.int 1000)) (mVar 4)) (mOp mulD (mVar 2) (mCall 2 m__law_draw (aCons (mVar 0) (aCons (mC (.int 3)) aNil))))) (aCons (mVar 5) (aCons (mVar 2) (aCons (mCall 1 m__law_dart (aCons (mVar 0) aNil)) aNil)))))) aNil)))))
      (sSeq (sIf (bVal (mOp gtD (mCall 2 m__law_draw (aCons (mVar 0) (aCons (mC (.int 3)) aNil))) (mC (.int 0)))) (sSeq (sAsg (mCall 2 m__law_pick (aCons (mVar 0) (aCons (mVar 3) aNil))) (gN 6))
      (sSeq (sAsg (mOp addD (mOp ixD (mVar 6) (mC (.int 1))) (mOp mulD (mOp subD (mOp ixD (mVar 6) (mC (.int 2))) (mCall 2 m__law_pick (aCons (mVar 0) (aCons (mLst (aCons (mC (.int 0)) (aCons (mC (.int 0)) (aCons (mC (.int 1)) aNil)))) aNil)))) (mVar 2))) (gN 7))
      (sDrop (mM "list" appD (mVar 3) (aCons (mTup (aCons (mVar 1) (aCons (mVar 7) (aCons (mOp addD (mC (.int 1)) (mCall 2 m__law_draw (aCons (mVar 0) (aCons (mC (.int 9)) aNil)))) (aCons (mOp mulD (mVar 2) (mCall 2 m__law_pick (aCons (mVar 0) (aCons (mLst (aCons (mC (.int 1)) (aCons (mC (.int 1)) (aCons (mC (.int 2)) aNil)))) aNil)))) (aCons (mC (.int 3)) aNil)))))) aNil))))) sNil)
      (sRet (mVar 3)))))
noncomputable def m__law_woven : FM := (fun ds S => gcF S (fnP N__law_woven.length b__law_woven ds S))
theorem ok__law_woven (c : Fx K mg) : FD P w K mg base "_law_woven" st__law_woven ["deck", "street"] 4 m__law_woven := by
    obtain ⟨f, fd, G⟩ := c.g__law_woven
    refine (fd_mk (k := 3) G sc__law_woven fun X W cdv A outer s H E eX eW tk hp hr => ?_).gcF
    have hu := hr.units
    have hu65 : X.A.units + 65 < cLine := by have := hr.un; omega
    have hu1 : X.A.units + 1 < cLine := by have := hr.un; omega
    have nd := sc__law_woven.nd
    subst eX
    exact (b_cons (s_par2 (i := 2) (j := 3) rfl nd rfl rfl (by decide) rfl rfl (a_cons (d_bin opD_add d_int (d_call (ok__law_draw c) bd__law_draw (hr.mono (by decide)) rfl tk (a_cons (d_var (i := 0) rfl (Or.inl rfl)) (a_cons d_int a_nil)))) (a_cons (d_new a_nil) a_nil)))
      (b_cons (s_for hp rfl (i_rng1 (by rfl) c.n_range (a_cons (d_bin opD_add d_int (d_call (ok__law_draw c) bd__law_draw (hr.mono (by decide)) rfl tk (a_cons (d_var (i := 0) rfl (Or.inl rfl)) (a_cons d_int a_nil)))) a_nil)) (g_name nd (i := 4) rfl (Or.inl rfl) (Or.inr rfl)) (b_cons (s_set nd (i := 5) rfl (Or.inl rfl) (Or.inr rfl) (d_call (ok__law_pick c) bd__law_pick (hr.mono (by decide)) rfl tk (a_cons (d_var (i := 0) rfl (Or.inl rfl)) (a_cons (d_lst (a_cons d_int (a_cons d_int (a_cons d_int (a_cons (d_bin opD_pow d_int d_int) (a_cons (d_bin opD_add d_int (d_call (ok__law_draw c) bd__law_draw (hr.mono (by decide)) rfl tk (a_cons (d_var (i := 0) rfl (Or.inl rfl)) (a_cons (d_bin opD_pow d_int d_int) a_nil)))) a_nil)))))) a_nil))))
      (b_one (s_drop (d_bm PySem.F.plainAttrs_list PySem.F.slot_list_append PySem.F.type_list_append mD_app (d_var (i := 3) rfl (Or.inl rfl)) (a_cons (d_tup (a_cons (d_var (i := 1) rfl (Or.inl rfl)) (a_cons (d_bin opD_add (d_bin opD_add d_int (d_var (i := 4) rfl (Or.inl rfl))) (d_bin opD_mul (d_var (i := 2) rfl (Or.inl rfl)) (d_call (ok__law_draw c) bd__law_draw (hr.mono (by decide)) rfl tk (a_cons (d_var (i := 0) rfl (Or.inl rfl)) (a_cons d_int a_nil))))) (a_cons (d_var (i := 5) rfl (Or.inl rfl)) (a_cons (d_var (i := 2) rfl (Or.inl rfl)) (a_cons (d_call (ok__law_dart c) bd__law_dart (hr.mono (by decide)) rfl tk (a_cons (d_var (i := 0) rfl (Or.inl rfl)) a_nil)) a_nil)))))) a_nil))))))
      (b_cons (s_if (t_cmp opD_gt (d_call (ok__law_draw c) bd__law_draw (hr.mono (by decide)) rfl tk (a_cons (d_var (i := 0) rfl (Or.inl rfl)) (a_cons d_int a_nil))) d_int rfl) (b_cons (s_set nd (i := 6) rfl (Or.inl rfl) (Or.inr rfl) (d_call (ok__law_pick c) bd__law_pick (hr.mono (by decide)) rfl tk (a_cons (d_var (i := 0) rfl (Or.inl rfl)) (a_cons (d_var (i := 3) rfl (Or.inl rfl)) a_nil))))
      (b_cons (s_set nd (i := 7) rfl (Or.inl rfl) (Or.inr rfl) (d_bin opD_add (d_ix hu1 (d_var (i := 6) rfl (Or.inl rfl)) d_int (fun _ _ => rfl)) (d_bin opD_mul (d_bin opD_sub (d_ix hu1 (d_var (i := 6) rfl (Or.inl rfl)) d_int (fun _ _ => rfl)) (d_call (ok__law_pick c) bd__law_pick (hr.mono (by decide)) rfl tk (a_cons (d_var (i := 0) rfl (Or.inl rfl)) (a_cons (d_lst (a_cons d_int (a_cons d_int (a_cons d_int a_nil)))) a_nil)))) (d_var (i := 2) rfl (Or.inl rfl)))))
      (b_one (s_drop (d_bm PySem.F.plainAttrs_list PySem.F.slot_list_append PySem.F.type_list_append mD_app (d_var (i := 3) rfl (Or.inl rfl)) (a_cons (d_tup (a_cons (d_var (i := 1) rfl (Or.inl rfl)) (a_cons (d_var (i := 7) rfl (Or.inl rfl)) (a_cons (d_bin opD_add d_int (d_call (ok__law_draw c) bd__law_draw (hr.mono (by decide)) rfl tk (a_cons (d_var (i := 0) rfl (Or.inl rfl)) (a_cons d_int a_nil)))) (a_cons (d_bin opD_mul (d_var (i := 2) rfl (Or.inl rfl)) (d_call (ok__law_pick c) bd__law_pick (hr.mono (by decide)) rfl tk (a_cons (d_var (i := 0) rfl (Or.inl rfl)) (a_cons (d_lst (a_cons d_int (a_cons d_int (a_cons d_int a_nil)))) a_nil)))) (a_cons d_int a_nil)))))) a_nil)))))) b_nil)
      (b_one (s_ret (d_var (i := 3) rfl (Or.inl rfl)))))))

abbrev N__law_book : List Str := ["deck", "way", "streets", "found", "turn"]
theorem sc__law_book : FnScope N__law_book ["deck"] (defScope st__law_book) := ⟨rfl, rfl, rfl, by decide +kernel, rfl, by decide +kernel, by decide +kernel⟩
theorem bd__law_book : BindOk "_law_book" st__law_book ["deck"] := fun _ _ _ _ _ _ us hl => match us, hl with | [_], _ => rfl
noncomputable def b__law_book : SM :=
      (sSeq (sPar [1, 2, 3] (aCons (mCall 2 m__law_draw (aCons (mVar 0) (aCons (mC (.int 4)) aNil))) (aCons (mCall 2 m__law_pick (aCons (mVar 0) (aCons (mLst (aCons (mLst (aCons (mC (.int 7)) aNil)) (aCons (mLst (aCons (mC (.int 0)) (aCons (mC (.int 99)) aNil))) (aCons (mLstRg (mC (.int 100))) (aCons (mLst (aCons (mCall 2 m__law_draw (aCons (mVar 0) (aCons (mC (.int 100)) aNil))) aNil)) aNil))))) aNil))) (aCons (mNew aNil) aNil))))
      (sSeq (sIf (bVal (mOp eqD (mVar 1) (mC (.int 0)))) (sRet (mB tupleD (aCons (mCall 2 m__law_shuffled (aCons (mVar 0) (aCons (mCall 2 m__law_woven (aCons (mVar 0) (aCons (mCall 2 m__law_pick (aCons (mVar 0) (aCons (mVar 2) aNil))) aNil))) aNil))) aNil))) sNil)
      (sSeq (sFor (iRng1 (aCons (mCall 2 m__law_pick (aCons (mVar 0) (aCons (mLst (aCons (mC (.int 2)) (aCons (mC (.int 3)) (aCons (mCall 2 m__law_draw (aCons (mVar 0) (aCons (mC (.int 13)) aNil))) (aCons (mC (.int 12)) aNil))))) aNil))) aNil)) (gN 4) (sIf (bAnd (bVal (mOp ne0D (mVar 3) (mLst aNil))) (bVal (mOp ltD (mCall 2 m__law_draw (aCons (mVar 0) (aCons (mC (.int 4)) aNil))) (mVar 1)))) (sDrop (mM "list" appD (mVar 3) (aCons (mCall 2 m__law_meeting (aCons (mVar 0) (aCons (mCall 2 m__law_pick (aCons (mVar 0) (aCons (mVar 3) aNil))) aNil))) aNil))) (sIf (bAnd (bVal (mOp ne0D (mVar 3) (mLst aNil))) (bVal (mOp eqD (mCall 2 m__law_draw (aCons (mVar 0) (aCons (mC (.int 12)) aNil))) (mC (.int 0))))) (sDrop (mM "list" appD (mVar 3) (aCons (mCall 2 m__law_pick (aCons (mVar 0) (aCons (mVar 3) aNil))) aNil))) (sDrop (mM "list" appD (mVar 3) (aCons (mCall 2 m__law_claim (aCons (mVar 0) (aCons (mCall 2 m__law_pick (aCons (mVar 0) (aCons (mVar 2) aNil))) aNil))) aNil))))))
      (sRet (mB tupleD (aCons (mCall 2 m__law_shuffled (aCons (mVar 0) (aCons (mVar 3) aNil))) aNil))))))
noncomputable def m__law_book : FM := (fun ds S => gcR S (fnP N__law_book.length b__law_book ds S))
theorem ok__law_book (c : Fx K mg) : FD P w K mg base "_law_book" st__law_book ["deck"] 5 m__law_book := by
    obtain ⟨f, fd, G⟩ := c.g__law_book
    refine (fd_mk (k := 4) G sc__law_book fun X W cdv A outer s H E eX eW tk hp hr => ?_).gc
    have hu := hr.units
    have hu65 : X.A.units + 65 < cLine := by have := hr.un; omega
    have hu1 : X.A.units + 1 < cLine := by have := hr.un; omega
    have nd := sc__law_book.nd
    subst eX
    exact (b_cons (s_par3 (i := 1) (j := 2) (l := 3) rfl nd rfl rfl rfl (by decide) (by decide) (by decide) rfl rfl rfl (a_cons (d_call (ok__law_draw c) bd__law_draw (hr.mono (by decide)) rfl tk (a_cons (d_var (i := 0) rfl (Or.inl rfl)) (a_cons d_int a_nil))) (a_cons (d_call (ok__law_pick c) bd__law_pick (hr.mono (by decide)) rfl tk (a_cons (d_var (i := 0) rfl (Or.inl rfl)) (a_cons (d_lst (a_cons (d_lst (a_cons d_int a_nil)) (a_cons (d_lst (a_cons d_int (a_cons d_int a_nil))) (a_cons (d_lstRg rfl (by rfl) c.n_list (by rfl) c.n_range d_int) (a_cons (d_lst (a_cons (d_call (ok__law_draw c) bd__law_draw (hr.mono (by decide)) rfl tk (a_cons (d_var (i := 0) rfl (Or.inl rfl)) (a_cons d_int a_nil))) a_nil)) a_nil))))) a_nil))) (a_cons (d_new a_nil) a_nil))))
      (b_cons (s_if (t_cmp (opD_eq hu) (d_var (i := 1) rfl (Or.inl rfl)) d_int rfl) (b_one (s_ret (d_Ty (cD_tuple) (by rfl) c.n_tuple bt_tuple (a_cons (d_call (ok__law_shuffled c) bd__law_shuffled (hr.mono (by decide)) rfl tk (a_cons (d_var (i := 0) rfl (Or.inl rfl)) (a_cons (d_call (ok__law_woven c) bd__law_woven (hr.mono (by decide)) rfl tk (a_cons (d_var (i := 0) rfl (Or.inl rfl)) (a_cons (d_call (ok__law_pick c) bd__law_pick (hr.mono (by decide)) rfl tk (a_cons (d_var (i := 0) rfl (Or.inl rfl)) (a_cons (d_var (i := 2) rfl (Or.inl rfl)) a_nil))) a_nil))) a_nil))) a_nil)))) b_nil)
      (b_cons (s_for hp rfl (i_rng1 (by rfl) c.n_range (a_cons (d_call (ok__law_pick c) bd__law_pick (hr.mono (by decide)) rfl tk (a_cons (d_var (i := 0) rfl (Or.inl rfl)) (a_cons (d_lst (a_cons d_int (a_cons d_int (a_cons (d_call (ok__law_draw c) bd__law_draw (hr.mono (by decide)) rfl tk (a_cons (d_var (i := 0) rfl (Or.inl rfl)) (a_cons d_int a_nil))) (a_cons d_int a_nil))))) a_nil))) a_nil)) (g_name nd (i := 4) rfl (Or.inl rfl) (Or.inr rfl)) (b_one (s_if (t_bool (w_and (t_cmp (opD_ne0 hu) (d_var (i := 3) rfl (Or.inl rfl)) (d_lst a_nil) rfl) (w_and1 (t_cmp opD_lt (d_call (ok__law_draw c) bd__law_draw (hr.mono (by decide)) rfl tk (a_cons (d_var (i := 0) rfl (Or.inl rfl)) (a_cons d_int a_nil))) (d_var (i := 1) rfl (Or.inl rfl)) rfl)))) (b_one (s_drop (d_bm PySem.F.plainAttrs_list PySem.F.slot_list_append PySem.F.type_list_append mD_app (d_var (i := 3) rfl (Or.inl rfl)) (a_cons (d_call (ok__law_meeting c) bd__law_meeting (hr.mono (by decide)) rfl tk (a_cons (d_var (i := 0) rfl (Or.inl rfl)) (a_cons (d_call (ok__law_pick c) bd__law_pick (hr.mono (by decide)) rfl tk (a_cons (d_var (i := 0) rfl (Or.inl rfl)) (a_cons (d_var (i := 3) rfl (Or.inl rfl)) a_nil))) a_nil))) a_nil)))) (b_one (s_if (t_bool (w_and (t_cmp (opD_ne0 hu) (d_var (i := 3) rfl (Or.inl rfl)) (d_lst a_nil) rfl) (w_and1 (t_cmp (opD_eq hu) (d_call (ok__law_draw c) bd__law_draw (hr.mono (by decide)) rfl tk (a_cons (d_var (i := 0) rfl (Or.inl rfl)) (a_cons d_int a_nil))) d_int rfl)))) (b_one (s_drop (d_bm PySem.F.plainAttrs_list PySem.F.slot_list_append PySem.F.type_list_append mD_app (d_var (i := 3) rfl (Or.inl rfl)) (a_cons (d_call (ok__law_pick c) bd__law_pick (hr.mono (by decide)) rfl tk (a_cons (d_var (i := 0) rfl (Or.inl rfl)) (a_cons (d_var (i := 3) rfl (Or.inl rfl)) a_nil))) a_nil)))) (b_one (s_drop (d_bm PySem.F.plainAttrs_list PySem.F.slot_list_append PySem.F.type_list_append mD_app (d_var (i := 3) rfl (Or.inl rfl)) (a_cons (d_call (ok__law_claim c) bd__law_claim (hr.mono (by decide)) rfl tk (a_cons (d_var (i := 0) rfl (Or.inl rfl)) (a_cons (d_call (ok__law_pick c) bd__law_pick (hr.mono (by decide)) rfl tk (a_cons (d_var (i := 0) rfl (Or.inl rfl)) (a_cons (d_var (i := 2) rfl (Or.inl rfl)) a_nil))) a_nil))) a_nil)))))))))
      (b_one (s_ret (d_Ty (cD_tuple) (by rfl) c.n_tuple bt_tuple (a_cons (d_call (ok__law_shuffled c) bd__law_shuffled (hr.mono (by decide)) rfl tk (a_cons (d_var (i := 0) rfl (Or.inl rfl)) (a_cons (d_var (i := 3) rfl (Or.inl rfl)) a_nil))) a_nil)))))))

abbrev N__law_is_integer : List Str := ["thing"]
theorem sc__law_is_integer : FnScope N__law_is_integer ["thing"] (defScope st__law_is_integer) := ⟨rfl, rfl, rfl, by decide +kernel, rfl, by decide +kernel, by decide +kernel⟩
theorem bd__law_is_integer : BindOk "_law_is_integer" st__law_is_integer ["thing"] := fun _ _ _ _ _ _ us hl => match us, hl with | [_], _ => rfl
noncomputable def b__law_is_integer : SM :=
      (sRet (mAnd (mB isiD (aCons (mVar 0) (aCons (mC (.ty "int")) aNil))) (mNot (mB isiD (aCons (mVar 0) (aCons (mC (.ty "bool")) aNil))))))
noncomputable def m__law_is_integer : FM := fnP N__law_is_integer.length b__law_is_integer
theorem ok__law_is_integer (c : Fx K mg) : FD P w K mg base "_law_is_integer" st__law_is_integer ["thing"] 1 m__law_is_integer := by
    obtain ⟨f, fd, G⟩ := c.g__law_is_integer
    refine (fd_mk (k := 0) G sc__law_is_integer fun X W cdv A outer s H E eX eW tk hp hr => ?_)
    have hu := hr.units
    have hu65 : X.A.units + 65 < cLine := by have := hr.un; omega
    have hu1 : X.A.units + 1 < cLine := by have := hr.un; omega
    have nd := sc__law_is_integer.nd
    subst eX
    exact (b_one (s_ret (d_and (d_B (cD_isi) (by rfl) c.n_isinstance bt_isinstance (a_cons (d_var (i := 0) rfl (Or.inl rfl)) (a_cons (d_ty (by rfl) c.n_int bt_int) a_nil))) (d_one (d_not (d_B (cD_isi) (by rfl) c.n_isinstance bt_isinstance (a_cons (d_var (i := 0) rfl (Or.inl rfl)) (a_cons (d_ty (by rfl) c.n_bool bt_bool) a_nil))))))))

abbrev N__law_is_book : List Str := ["thing", "it", "x"]
theorem sc__law_is_book : FnScope N__law_is_book ["thing"] (defScope st__law_is_book) := ⟨rfl, rfl, rfl, by decide +kernel, rfl, by decide +kernel, by decide +kernel⟩
theorem bd__law_is_book : BindOk "_law_is_book" st__law_is_book ["thing"] := fun _ _ _ _ _ _ us hl => match us, hl with | [_], _ => rfl
noncomputable def b__law_is_book : SM :=
      (sSeq (sIf (bNot (bVal (mB isiD (aCons (mVar 0) (aCons (mC (.ty "tuple")) aNil))))) (sRet (mC (.bl false))) sNil)
      (sSeq (sFor (iSeq (mVar 0)) (gN 1) (sSeq (sIf (bOr (bNot (bVal (mB isiD (aCons (mVar 1) (aCons (mC (.ty "tuple")) aNil))))) (bOr (bVal (mOp neD (mB lenD (aCons (mVar 1) aNil)) (mC (.int 5)))) (bVal (mOp ne0D (mLc (iSeq (mVar 1)) (gN 2) (bNot (bVal (mCall 1 m__law_is_integer (aCons (mVar 2) aNil)))) (mVar 2) [2]) (mLst aNil))))) (sRet (mC (.bl false))) sNil)
      (sIf (bOr (bNot (bVal (mChain leD leD (mC (.int 0)) (mOp ixD (mVar 1) (mC (.int 0))) (mC (.int 99))))) (bOr (bNot (bVal (mChain leD leD (mC (.int 0)) (mOp ixD (mVar 1) (mC (.int 1))) (mOp powD (mC (.int 10)) (mC (.int 9)))))) (bOr (bNot (bVal (mChain leD leD (mC (.int 1)) (mOp ixD (mVar 1) (mC (.int 2))) (mOp powD (mC (.int 10)) (mC (.int 9)))))) (bOr (bNot (bVal (mChain leD leD (mC (.int 1)) (mOp ixD (mVar 1) (mC (.int 3))) (mOp powD (mC (.int 10)) (mC (.int 6)))))) (bVal (mOp ltD (mOp ixD (mVar 1) (mC (.int 4))) (mC (.int 0)))))))) (sRet (mC (.bl false))) sNil)))
      (sRet (mC (.bl true)))))
noncomputable def m__law_is_book : FM := fnP N__law_is_book.length b__law_is_book
theorem ok__law_is_book (c : Fx K mg) : FD P w K mg base "_law_is_book" st__law_is_book ["thing"] 2 m__law_is_book := by
    obtain ⟨f, fd, G⟩ := c.g__law_is_book
    refine (fd_mk (k := 1) G sc__law_is_book fun X W cdv A outer s H E eX eW tk hp hr => ?_)
    have hu := hr.units
    have hu65 : X.A.units + 65 < cLine := by have := hr.un; omega
    have hu1 : X.A.units + 1 < cLine := by have := hr.un; omega
    have nd := sc__law_is_book.nd
    subst eX
    exact (b_cons (s_if (t_not (t_val (d_B (cD_isi) (by rfl) c.n_isinstance bt_isinstance (a_cons (d_var (i := 0) rfl (Or.inl rfl)) (a_cons (d_ty (by rfl) c.n_tuple bt_tuple) a_nil))))) (b_one (s_ret d_bl)) b_nil)
      (b_cons (s_for hp rfl (i_seq (d_var (i := 0) rfl (Or.inl rfl))) (g_name nd (i := 1) rfl (Or.inl rfl) (Or.inr rfl)) (b_cons (s_if (t_bool (w_or (t_not (t_val (d_B (cD_isi) (by rfl) c.n_isinstance bt_isinstance (a_cons (d_var (i := 1) rfl (Or.inl rfl)) (a_cons (d_ty (by rfl) c.n_tuple bt_tuple) a_nil))))) (w_or (t_cmp (opD_ne hu) (d_B (cD_len) (by rfl) c.n_len bt_len (a_cons (d_var (i := 1) rfl (Or.inl rfl)) a_nil)) d_int rfl) (w_or1 (t_cmp (opD_ne0 hu) (d_lc rfl nd (i_seq (d_var (i := 1) rfl (Or.inl rfl))) (blkOk_by (own := [("x", 2)]) (by kernel_rfl)) (by decide) (fun s H C cl fp => (g_name nd (i := 2) rfl (Or.inl rfl) (Or.inr rfl))) (fun s H C cl fp => (ts_one (t_not (t_val (d_call (ok__law_is_integer c) bd__law_is_integer (hr.mono (by decide)) rfl takesW0 (a_cons (d_var (i := 2) rfl (Or.inl rfl)) a_nil)))))) (fun s H C cl fp => (d_var (i := 2) rfl (Or.inl rfl)))) (d_lst a_nil) rfl))))) (b_one (s_ret d_bl)) b_nil)
      (b_one (s_if (t_bool (w_or (t_not (t_chain opD_le opD_le d_int (d_ix hu1 (d_var (i := 1) rfl (Or.inl rfl)) d_int (fun _ _ => rfl)) d_int)) (w_or (t_not (t_chain opD_le opD_le d_int (d_ix hu1 (d_var (i := 1) rfl (Or.inl rfl)) d_int (fun _ _ => rfl)) (d_bin opD_pow d_int d_int))) (w_or (t_not (t_chain opD_le opD_le d_int (d_ix hu1 (d_var (i := 1) rfl (Or.inl rfl)) d_int (fun _ _ => rfl)) (d_bin opD_pow d_int d_int))) (w_or (t_not (t_chain opD_le opD_le d_int (d_ix hu1 (d_var (i := 1) rfl (Or.inl rfl)) d_int (fun _ _ => rfl)) (d_bin opD_pow d_int d_int))) (w_or1 (t_cmp opD_lt (d_ix hu1 (d_var (i := 1) rfl (Or.inl rfl)) d_int (fun _ _ => rfl)) d_int rfl))))))) (b_one (s_ret d_bl)) b_nil))))
      (b_one (s_ret d_bl))))

abbrev N__law_clashes : List Str := ["book", "found", "b", "a", "number"]
theorem sc__law_clashes : FnScope N__law_clashes ["book"] (defScope st__law_clashes) := ⟨rfl, rfl, rfl, by decide +kernel, rfl, by decide +kernel, by decide +kernel⟩
theorem bd__law_clashes : BindOk "_law_clashes" st__law_clashes ["book"] := fun _ _ _ _ _ _ us hl => match us, hl with | [_], _ => rfl
noncomputable def b__law_clashes : SM :=
      (sSeq (sAsg (mNew aNil) (gN 1))
      (sSeq (sFor (iRng1 (aCons (mB lenD (aCons (mVar 0) aNil)) aNil)) (gN 2) (sFor (iRng1 (aCons (mVar 2) aNil)) (gN 3) (sSeq (sAsg (mCall 2 m__law_common (aCons (mOp ixD (mVar 0) (mVar 3)) (aCons (mOp ixD (mVar 0) (mVar 2)) aNil))) (gN 4))
      (sIf (bVal (mOp isnD (mVar 4) (mC .non))) (sDrop (mM "list" appD (mVar 1) (aCons (mTup (aCons (mC (.str "clash")) (aCons (mVar 3) (aCons (mVar 2) (aCons (mVar 4) aNil))))) aNil))) sNil))))
      (sRet (mB sortTD (aCons (mVar 1) aNil)))))
noncomputable def m__law_clashes : FM := (fun ds S => gcR S (fnP N__law_clashes.length b__law_clashes ds S))
theorem ok__law_clashes (c : Fx K mg) : FD P w K mg base "_law_clashes" st__law_clashes ["book"] 3 m__law_clashes := by
    obtain ⟨f, fd, G⟩ := c.g__law_clashes
    refine (fd_mk (k := 2) G sc__law_clashes fun X W cdv A outer s H E eX eW tk hp hr => ?_).gc
    have hu := hr.units
    have hu65 : X.A.units + 65 < cLine := by have := hr.un; omega
    have hu1 : X.A.units + 1 < cLine := by have := hr.un; omega
    have nd := sc__law_clashes.nd
    subst eX
    exact (b_cons (s_set nd (i := 1) rfl (Or.inl rfl) (Or.inr rfl) (d_new a_nil))
      (b_cons (s_for hp rfl (i_rng1 (by rfl) c.n_range (a_cons (d_B (cD_len) (by rfl) c.n_len bt_len (a_cons (d_var (i := 0) rfl (Or.inl rfl)) a_nil)) a_nil)) (g_name nd (i := 2) rfl (Or.inl rfl) (Or.inr rfl)) (b_one (s_for hp rfl (i_rng1 (by rfl) c.n_range (a_cons (d_var (i := 2) rfl (Or.inl rfl)) a_nil)) (g_name nd (i := 3) rfl (Or.inl rfl) (Or.inr rfl)) (b_cons (s_set nd (i := 4) rfl (Or.inl rfl) (Or.inr rfl) (d_call (ok__law_common c) bd__law_common (hr.mono (by decide)) rfl tk (a_cons (d_ix hu1 (d_var (i := 0) rfl (Or.inl rfl)) (d_var (i := 3) rfl (Or.inl rfl)) (fun _ _ => rfl)) (a_cons (d_ix hu1 (d_var (i := 0) rfl (Or.inl rfl)) (d_var (i := 2) rfl (Or.inl rfl)) (fun _ _ => rfl)) a_nil))))
      (b_one (s_if (t_cmp opD_isn (d_var (i := 4) rfl (Or.inl rfl)) d_non rfl) (b_one (s_drop (d_bm PySem.F.plainAttrs_list PySem.F.slot_list_append PySem.F.type_list_append mD_app (d_var (i := 1) rfl (Or.inl rfl)) (a_cons (d_tup (a_cons d_str (a_cons (d_var (i := 3) rfl (Or.inl rfl)) (a_cons (d_var (i := 2) rfl (Or.inl rfl)) (a_cons (d_var (i := 4) rfl (Or.inl rfl)) a_nil))))) a_nil)))) b_nil))))))
      (b_one (s_ret (d_B (cD_sortT) (by rfl) c.n_sorted bt_sorted (a_cons (d_var (i := 1) rfl (Or.inl rfl)) a_nil))))))

abbrev N__law_is_paper : List Str := ["papers", "thing", "paper"]
theorem sc__law_is_paper : FnScope N__law_is_paper ["papers", "thing"] (defScope st__law_is_paper) := ⟨rfl, rfl, rfl, by decide +kernel, rfl, by decide +kernel, by decide +kernel⟩
theorem bd__law_is_paper : BindOk "_law_is_paper" st__law_is_paper ["papers", "thing"] := fun _ _ _ _ _ _ us hl => match us, hl with | [_, _], _ => rfl
noncomputable def b__law_is_paper : SM :=
      (sRet (mOp ne0D (mLc (iSeq (mIf (bVal (mOp ne0D (mVar 0) (mLst aNil))) (mVar 0) (mLst (aCons (mTup (aCons (mC (.str "clear")) aNil)) aNil)))) (gN 2) (bVal (mCall 2 (m__law_same 5) (aCons (mVar 1) (aCons (mVar 2) aNil)))) (mVar 2) [2]) (mLst aNil)))
noncomputable def m__law_is_paper : FM := fnP N__law_is_paper.length b__law_is_paper
theorem ok__law_is_paper (c : Fx K mg) : FD P w K mg base "_law_is_paper" st__law_is_paper ["papers", "thing"] 7 m__law_is_paper := by
    obtain ⟨f, fd, G⟩ := c.g__law_is_paper
    refine (fd_mk (k := 6) G sc__law_is_paper fun X W cdv A outer s H E eX eW tk hp hr => ?_)
    have hu := hr.units
    have hu65 : X.A.units + 65 < cLine := by have := hr.un; omega
    have hu1 : X.A.units + 1 < cLine := by have := hr.un; omega
    have nd := sc__law_is_paper.nd
    subst eX
    exact (b_one (s_ret (d_cmp (opD_ne0 hu) (d_lc rfl nd (i_seq (d_if (t_cmp (opD_ne0 hu) (d_var (i := 0) rfl (Or.inl rfl)) (d_lst a_nil) rfl) (d_var (i := 0) rfl (Or.inl rfl)) (d_lst (a_cons (d_tup (a_cons d_str a_nil)) a_nil)))) (blkOk_by (own := [("paper", 2)]) (by kernel_rfl)) (by decide) (fun s H C cl fp => (g_name nd (i := 2) rfl (Or.inl rfl) (Or.inr rfl))) (fun s H C cl fp => (ts_one (t_val (d_call (ok__law_same c 5) bd__law_same (hr.mono (by decide)) rfl takesW0 (a_cons (d_var (i := 1) rfl (Or.inr (Or.inl rfl))) (a_cons (d_var (i := 2) rfl (Or.inl rfl)) a_nil)))))) (fun s H C cl fp => (d_var (i := 2) rfl (Or.inl rfl)))) (d_lst a_nil) rfl)))

abbrev N__law_near : List Str := ["deck", "book", "paper", "word", "a", "b", "number", "divisor", "more", "some"]
theorem sc__law_near : FnScope N__law_near ["deck", "book", "paper"] (defScope st__law_near) := ⟨rfl, rfl, rfl, by decide +kernel, rfl, by decide +kernel, by decide +kernel⟩
theorem bd__law_near : BindOk "_law_near" st__law_near ["deck", "book", "paper"] := fun _ _ _ _ _ _ us hl => match us, hl with | [_, _, _], _ => rfl
noncomputable def b__law_near : SM :=
      (sSeq (sAsg (mVar 2) (gT [(gN 3), (gN 4), (gN 5), (gN 6)]))
      (sSeq (sAsg (mOp ixD (mCall 2 m__law_euclid (aCons (mOp ixD (mOp ixD (mVar 1) (mVar 4)) (mC (.int 3))) (aCons (mOp ixD (mOp ixD (mVar 1) (mVar 5)) (mC (.int 3))) aNil))) (mC (.int 0))) (gN 7))
      (sSeq (sAsg (mOp mulD (mOp fdivD (mOp ixD (mOp ixD (mVar 1) (mVar 4)) (mC (.int 3))) (mVar 7)) (mOp ixD (mOp ixD (mVar 1) (mVar 5)) (mC (.int 3)))) (gN 8))
      (sSeq (sAsg (mLst (aCons (mTup (aCons (mVar 3) (aCons (mVar 5) (aCons (mVar 4) (aCons (mVar 6) aNil))))) (aCons (mTup (aCons (mVar 3) (aCons (mVar 4) (aCons (mVar 5) (aCons (mOp addD (mVar 6) (mVar 8)) aNil))))) (aCons (mTup (aCons (mVar 3) (aCons (mVar 4) (aCons (mVar 5) (aCons (mOp subD (mVar 6) (mVar 8)) aNil))))) (aCons (mTup (aCons (mVar 3) (aCons (mVar 4) (aCons (mVar 5) (aCons (mOp addD (mVar 6) (mOp ixD (mOp ixD (mVar 1) (mVar 4)) (mC (.int 3)))) aNil))))) (aCons (mTup (aCons (mVar 3) (aCons (mVar 4) (aCons (mVar 4) (aCons (mVar 6) aNil))))) aNil)))))) (gN 9))
      (sSeq (sAsg (mOp addD (mVar 9) (mLst (aCons (mTup (aCons (mVar 3) (aCons (mVar 4) (aCons (mVar 5) aNil)))) (aCons (mOp addD (mVar 2) (mTup (aCons (mC (.int 0)) aNil))) (aCons (mTup (aCons (mVar 3) (aCons (mVar 4) (aCons (mVar 5) (aCons (mOp subD (mVar 6) (mC (.int 1))) aNil))))) (aCons (mTup (aCons (mVar 3) (aCons (mVar 4) (aCons (mCall 2 m__law_draw (aCons (mVar 0) (aCons (mB lenD (aCons (mVar 1) aNil)) aNil))) (aCons (mVar 6) aNil))))) (aCons (mTup (aCons (mC (.str "clear")) (aCons (mVar 4) (aCons (mVar 5) (aCons (mVar 6) aNil))))) aNil))))))) (gN 9))
      (sRet (mCall 2 m__law_pick (aCons (mVar 0) (aCons (mOp addD (mVar 9) (mLst (aCons (mTup (aCons (mVar 3) (aCons (mCall 2 m__law_draw (aCons (mVar 0) (aCons (mC (.int 12)) aNil))) (aCons (mVar 5) (aCons (mVar 6) aNil))))) (aCons (mCall 2 (m__law_bent 5) (aCons (mVar 0) (aCons (mVar 2) aNil))) (aCons (mB listD (aCons (mVar 2) aNil)) aNil))))) aNil)))))))))
noncomputable def m__law_near : FM := fnP N__law_near.length b__law_near
theorem ok__law_near (c : Fx K mg) : FD P w K mg base "_law_near" st__law_near ["deck", "book", "paper"] 10 m__law_near := by
    obtain ⟨f, fd, G⟩ := c.g__law_near
    refine (fd_mk (k := 9) G sc__law_near fun X W cdv A outer s H E eX eW tk hp hr => ?_)
    have hu := hr.units
    have hu65 : X.A.units + 65 < cLine := by have := hr.un; omega
    have hu1 : X.A.units + 1 < cLine := by have := hr.un; omega
    have nd := sc__law_near.nd
    subst eX
    exact (b_cons (s_asg (d_var (i := 2) rfl (Or.inl rfl)) (g_tup rfl (gs_cons (g_name nd (i := 3) rfl (Or.inl rfl) (Or.inr rfl)) (gs_cons (g_name nd (i := 4) rfl (Or.inl rfl) (Or.inr rfl)) (gs_cons (g_name nd (i := 5) rfl (Or.inl rfl) (Or.inr rfl)) (gs_cons (g_name nd (i := 6) rfl (Or.inl rfl) (Or.inr rfl)) gs_nil))))))
      (b_cons (s_set nd (i := 7) rfl (Or.inl rfl) (Or.inr rfl) (d_ix hu1 (d_call (ok__law_euclid c) bd__law_euclid (hr.mono (by decide)) rfl tk (a_cons (d_ix hu1 (d_ix hu1 (d_var (i := 1) rfl (Or.inl rfl)) (d_var (i := 4) rfl (Or.inl rfl)) (fun _ _ => rfl)) d_int (fun _ _ => rfl)) (a_cons (d_ix hu1 (d_ix hu1 (d_var (i := 1) rfl (Or.inl rfl)) (d_var (i := 5) rfl (Or.inl rfl)) (fun _ _ => rfl)) d_int (fun _ _ => rfl)) a_nil))) d_int (fun _ _ => rfl)))
      (b_cons (s_set nd (i := 8) rfl (Or.inl rfl) (Or.inr rfl) (d_bin opD_mul (d_bin opD_fdiv (d_ix hu1 (d_ix hu1 (d_var (i := 1) rfl (Or.inl rfl)) (d_var (i := 4) rfl (Or.inl rfl)) (fun _ _ => rfl)) d_int (fun _ _ => rfl)) (d_var (i := 7) rfl (Or.inl rfl))) (d_ix hu1 (d_ix hu1 (d_var (i := 1) rfl (Or.inl rfl)) (d_var (i := 5) rfl (Or.inl rfl)) (fun _ _ => rfl)) d_int (fun _ _ => rfl))))
      (b_cons (s_set nd (i := 9) rfl (Or.inl rfl) (Or.inr rfl) (d_lst (a_cons (d_tup (a_cons (d_var (i := 3) rfl (Or.inl rfl)) (a_cons (d_var (i := 5) rfl (Or.inl rfl)) (a_cons (d_var (i := 4) rfl (Or.inl rfl)) (a_cons (d_var (i := 6) rfl (Or.inl rfl)) a_nil))))) (a_cons (d_tup (a_cons (d_var (i := 3) rfl (Or.inl rfl)) (a_cons (d_var (i := 4) rfl (Or.inl rfl)) (a_cons (d_var (i := 5) rfl (Or.inl rfl)) (a_cons (d_bin opD_add (d_var (i := 6) rfl (Or.inl rfl)) (d_var (i := 8) rfl (Or.inl rfl))) a_nil))))) (a_cons (d_tup (a_cons (d_var (i := 3) rfl (Or.inl rfl)) (a_cons (d_var (i := 4) rfl (Or.inl rfl)) (a_cons (d_var (i := 5) rfl (Or.inl rfl)) (a_cons (d_bin opD_sub (d_var (i := 6) rfl (Or.inl rfl)) (d_var (i := 8) rfl (Or.inl rfl))) a_nil))))) (a_cons (d_tup (a_cons (d_var (i := 3) rfl (Or.inl rfl)) (a_cons (d_var (i := 4) rfl (Or.inl rfl)) (a_cons (d_var (i := 5) rfl (Or.inl rfl)) (a_cons (d_bin opD_add (d_var (i := 6) rfl (Or.inl rfl)) (d_ix hu1 (d_ix hu1 (d_var (i := 1) rfl (Or.inl rfl)) (d_var (i := 4) rfl (Or.inl rfl)) (fun _ _ => rfl)) d_int (fun _ _ => rfl))) a_nil))))) (a_cons (d_tup (a_cons (d_var (i := 3) rfl (Or.inl rfl)) (a_cons (d_var (i := 4) rfl (Or.inl rfl)) (a_cons (d_var (i := 4) rfl (Or.inl rfl)) (a_cons (d_var (i := 6) rfl (Or.inl rfl)) a_nil))))) a_nil)))))))
      (b_cons (s_set nd (i := 9) rfl (Or.inl rfl) (Or.inr rfl) (d_bin opD_add (d_var (i := 9) rfl (Or.inl rfl)) (d_lst (a_cons (d_tup (a_cons (d_var (i := 3) rfl (Or.inl rfl)) (a_cons (d_var (i := 4) rfl (Or.inl rfl)) (a_cons (d_var (i := 5) rfl (Or.inl rfl)) a_nil)))) (a_cons (d_bin opD_add (d_var (i := 2) rfl (Or.inl rfl)) (d_tup (a_cons d_int a_nil))) (a_cons (d_tup (a_cons (d_var (i := 3) rfl (Or.inl rfl)) (a_cons (d_var (i := 4) rfl (Or.inl rfl)) (a_cons (d_var (i := 5) rfl (Or.inl rfl)) (a_cons (d_bin opD_sub (d_var (i := 6) rfl (Or.inl rfl)) d_int) a_nil))))) (a_cons (d_tup (a_cons (d_var (i := 3) rfl (Or.inl rfl)) (a_cons (d_var (i := 4) rfl (Or.inl rfl)) (a_cons (d_call (ok__law_draw c) bd__law_draw (hr.mono (by decide)) rfl tk (a_cons (d_var (i := 0) rfl (Or.inl rfl)) (a_cons (d_B (cD_len) (by rfl) c.n_len bt_len (a_cons (d_var (i := 1) rfl (Or.inl rfl)) a_nil)) a_nil))) (a_cons (d_var (i := 6) rfl (Or.inl rfl)) a_nil))))) (a_cons (d_tup (a_cons d_str (a_cons (d_var (i := 4) rfl (Or.inl rfl)) (a_cons (d_var (i := 5) rfl (Or.inl rfl)) (a_cons (d_var (i := 6) rfl (Or.inl rfl)) a_nil))))) a_nil))))))))
      (b_one (s_ret (d_call (ok__law_pick c) bd__law_pick (hr.mono (by decide)) rfl tk (a_cons (d_var (i := 0) rfl (Or.inl rfl)) (a_cons (d_bin opD_add (d_var (i := 9) rfl (Or.inl rfl)) (d_lst (a_cons (d_tup (a_cons (d_var (i := 3) rfl (Or.inl rfl)) (a_cons (d_call (ok__law_draw c) bd__law_draw (hr.mono (by decide)) rfl tk (a_cons (d_var (i := 0) rfl (Or.inl rfl)) (a_cons d_int a_nil))) (a_cons (d_var (i := 5) rfl (Or.inl rfl)) (a_cons (d_var (i := 6) rfl (Or.inl rfl)) a_nil))))) (a_cons (d_call (ok__law_bent c 5) bd__law_bent (hr.mono (by decide)) rfl tk (a_cons (d_var (i := 0) rfl (Or.inl rfl)) (a_cons (d_var (i := 2) rfl (Or.inl rfl)) a_nil))) (a_cons (d_Ty (cD_list) (by rfl) c.n_list bt_list (a_cons (d_var (i := 2) rfl (Or.inl rfl)) a_nil)) a_nil))))) a_nil))))))))))

abbrev N__law_is_found_right : List Str := ["deck", "book", "go", "claim", "turn", "number", "street", "due", "at", "it", "told"]
theorem sc__law_is_found_right : FnScope N__law_is_found_right ["deck", "book"] (defScope st__law_is_found_right) := ⟨rfl, rfl, rfl, by decide +kernel, rfl, by decide +kernel, by decide +kernel⟩
theorem bd__law_is_found_right : BindOk "_law_is_found_right" st__law_is_found_right ["deck", "book"] := fun _ _ _ _ _ _ us hl => match us, hl with | [_, _], _ => rfl
noncomputable def b__law_is_found_right : SM :=
      (sSeq (sFor (iRng1 (aCons (mC (.int 7)) aNil)) (gN 2) (sSeq (sAsg (mIf (bVal (mOp ne0D (mVar 1) (mTup aNil))) (mCall 2 m__law_pick (aCons (mVar 0) (aCons (mVar 1) aNil))) (mTup (aCons (mCall 2 m__law_draw (aCons (mVar 0) (aCons (mC (.int 100)) aNil))) (aCons (mC (.int 5)) (aCons (mC (.int 3)) (aCons (mC (.int 2)) (aCons (mC (.int 0)) aNil))))))) (gN 3))
      (sSeq (sAsg (mCall 2 m__law_pick (aCons (mVar 0) (aCons (mLst (aCons (mC (.int 0)) (aCons (mOp subD (mOp ixD (mVar 3) (mC (.int 2))) (mC (.int 1))) (aCons (mOp ixD (mVar 3) (mC (.int 2))) (aCons (mUn negD (mC (.int 1))) (aCons (mCall 2 m__law_draw (aCons (mVar 0) (aCons (mOp ixD (mVar 3) (mC (.int 2))) aNil))) (aCons (mCall 2 m__law_draw (aCons (mVar 0) (aCons (mOp ixD (mVar 3) (mC (.int 2))) aNil))) aNil))))))) aNil))) (gN 4))
      (sSeq (sAsg (mB max2D (aCons (mC (.int 0)) (aCons (mOp addD (mOp addD (mOp ixD (mVar 3) (mC (.int 1))) (mOp mulD (mVar 4) (mOp ixD (mVar 3) (mC (.int 3))))) (mCall 2 m__law_pick (aCons (mVar 0) (aCons (mLst (aCons (mC (.int 0)) (aCons (mC (.int 0)) (aCons (mC (.int 0)) (aCons (mC (.int 1)) (aCons (mUn negD (mC (.int 1))) (aCons (mCall 2 m__law_draw (aCons (mVar 0) (aCons (mOp ixD (mVar 3) (mC (.int 3))) aNil))) aNil))))))) aNil)))) aNil))) (gN 5))
      (sSeq (sAsg (mIf (bVal (mOp gtD (mCall 2 m__law_draw (aCons (mVar 0) (aCons (mC (.int 6)) aNil))) (mC (.int 0)))) (mOp ixD (mVar 3) (mC (.int 0))) (mCall 2 m__law_draw (aCons (mVar 0) (aCons (mC (.int 100)) aNil)))) (gN 6))
      (sSeq (sAsg (mB tupleD (aCons (mLc (iEnA (aCons (mVar 1) aNil)) (gT [(gN 8), (gN 9)]) (bAnd (bVal (mOp eqD (mOp ixD (mVar 9) (mC (.int 0))) (mVar 6))) (bVal (mCall 2 m__law_holds (aCons (mVar 9) (aCons (mVar 5) aNil))))) (mVar 8) [8, 9]) aNil)) (gN 7))
      (sSeq (sAsg (mIf (bVal (mOp ltD (mVar 2) (mC (.int 4)))) (mCall 3 m_find (aCons (mVar 1) (aCons (mVar 6) (aCons (mVar 5) aNil)))) (mCallK 3 0 3 [2, 1, 0] m_find aNil (aCons (mVar 5) (aCons (mVar 6) (aCons (mVar 1) aNil))))) (gN 10))
      (sIf (bNot (bVal (mCall 2 (m__law_same 5) (aCons (mVar 10) (aCons (mVar 7) aNil))))) (sRet (mC (.bl false))) sNil))))))))
      (sRet (mC (.bl true))))
noncomputable def m__law_is_found_right : FM := fnP N__law_is_found_right.length b__law_is_found_right
theorem ok__law_is_found_right (c : Fx K mg) : FD P w K mg base "_law_is_found_right" st__law_is_found_right ["deck", "book"] 7 m__law_is_found_right := by
    obtain ⟨f, fd, G⟩ := c.g__law_is_found_right
    refine (fd_mk (k := 6) G sc__law_is_found_right fun X W cdv A outer s H E eX eW tk hp hr => ?_)
    have hu := hr.units
    have hu65 : X.A.units + 65 < cLine := by have := hr.un; omega
    have hu1 : X.A.units + 1 < cLine := by have := hr.un; omega
    have nd := sc__law_is_found_right.nd
    subst eX
    exact (b_cons (s_for hp rfl (i_rng1 (by rfl) c.n_range (a_cons d_int a_nil)) (g_name nd (i := 2) rfl (Or.inl rfl) (Or.inr rfl)) (b_cons (s_set nd (i := 3) rfl (Or.inl rfl) (Or.inr rfl) (d_if (t_cmp (opD_ne0 hu) (d_var (i := 1) rfl (Or.inl rfl)) (d_tup a_nil) rfl) (d_call (ok__law_pick c) bd__law_pick (hr.mono (by decide)) rfl tk (a_cons (d_var (i := 0) rfl (Or.inl rfl)) (a_cons (d_var (i := 1) rfl (Or.inl rfl)) a_nil))) (d_tup (a_cons (d_call (ok__law_draw c) bd__law_draw (hr.mono (by decide)) rfl tk (a_cons (d_var (i := 0) rfl (Or.inl rfl)) (a_cons d_int a_nil))) (a_cons d_int (a_cons d_int (a_cons d_int (a_cons d_int a_nil))))))))
      (b_cons (s_set nd (i := 4) rfl (Or.inl rfl) (Or.inr rfl) (d_call (ok__law_pick c) bd__law_pick (hr.mono (by decide)) rfl tk (a_cons (d_var (i := 0) rfl (Or.inl rfl)) (a_cons (d_lst (a_cons d_int (a_cons (d_bin opD_sub (d_ix hu1 (d_var (i := 3) rfl (Or.inl rfl)) d_int (fun _ _ => rfl)) d_int) (a_cons (d_ix hu1 (d_var (i := 3) rfl (Or.inl rfl)) d_int (fun _ _ => rfl)) (a_cons (d_un unD_neg d_int) (a_cons (d_call (ok__law_draw c) bd__law_draw (hr.mono (by decide)) rfl tk (a_cons (d_var (i := 0) rfl (Or.inl rfl)) (a_cons (d_ix hu1 (d_var (i := 3) rfl (Or.inl rfl)) d_int (fun _ _ => rfl)) a_nil))) (a_cons (d_call (ok__law_draw c) bd__law_draw (hr.mono (by decide)) rfl tk (a_cons (d_var (i := 0) rfl (Or.inl rfl)) (a_cons (d_ix hu1 (d_var (i := 3) rfl (Or.inl rfl)) d_int (fun _ _ => rfl)) a_nil))) a_nil))))))) a_nil))))
      (b_cons (s_set nd (i := 5) rfl (Or.inr rfl) (Or.inl rfl) (d_B (cD_max2 rfl) (by rfl) c.n_max bt_max (a_cons d_int (a_cons (d_bin opD_add (d_bin opD_add (d_ix hu1 (d_var (i := 3) rfl (Or.inl rfl)) d_int (fun _ _ => rfl)) (d_bin opD_mul (d_var (i := 4) rfl (Or.inl rfl)) (d_ix hu1 (d_var (i := 3) rfl (Or.inl rfl)) d_int (fun _ _ => rfl)))) (d_call (ok__law_pick c) bd__law_pick (hr.mono (by decide)) rfl tk (a_cons (d_var (i := 0) rfl (Or.inl rfl)) (a_cons (d_lst (a_cons d_int (a_cons d_int (a_cons d_int (a_cons d_int (a_cons (d_un unD_neg d_int) (a_cons (d_call (ok__law_draw c) bd__law_draw (hr.mono (by decide)) rfl tk (a_cons (d_var (i := 0) rfl (Or.inl rfl)) (a_cons (d_ix hu1 (d_var (i := 3) rfl (Or.inl rfl)) d_int (fun _ _ => rfl)) a_nil))) a_nil))))))) a_nil)))) a_nil))))
      (b_cons (s_set nd (i := 6) rfl (Or.inr rfl) (Or.inl rfl) (d_if (t_cmp opD_gt (d_call (ok__law_draw c) bd__law_draw (hr.mono (by decide)) rfl tk (a_cons (d_var (i := 0) rfl (Or.inl rfl)) (a_cons d_int a_nil))) d_int rfl) (d_ix hu1 (d_var (i := 3) rfl (Or.inl rfl)) d_int (fun _ _ => rfl)) (d_call (ok__law_draw c) bd__law_draw (hr.mono (by decide)) rfl tk (a_cons (d_var (i := 0) rfl (Or.inl rfl)) (a_cons d_int a_nil)))))
      (b_cons (s_set nd (i := 7) rfl (Or.inl rfl) (Or.inr rfl) (d_Ty (cD_tuple) (by rfl) c.n_tuple bt_tuple (a_cons (d_lc rfl nd (i_enumA (by rfl) c.n_enumerate (a_cons (d_var (i := 1) rfl (Or.inl rfl)) a_nil)) (blkOk_by (own := [("at", 8), ("it", 9)]) (by kernel_rfl)) (by decide) (fun s H C cl fp => (g_tup rfl (gs_cons (g_name nd (i := 8) rfl (Or.inl rfl) (Or.inr rfl)) (gs_cons (g_name nd (i := 9) rfl (Or.inl rfl) (Or.inr rfl)) gs_nil)))) (fun s H C cl fp => (ts_one (t_bool (w_and (t_cmp (opD_eq hu) (d_ix hu1 (d_var (i := 9) rfl (Or.inl rfl)) d_int (fun _ _ => rfl)) (d_var (i := 6) rfl (Or.inr (Or.inl rfl))) rfl) (w_and1 (t_val (d_call (ok__law_holds c) bd__law_holds (hr.mono (by decide)) rfl takesW0 (a_cons (d_var (i := 9) rfl (Or.inl rfl)) (a_cons (d_var (i := 5) rfl (Or.inr (Or.inl rfl))) a_nil))))))))) (fun s H C cl fp => (d_var (i := 8) rfl (Or.inl rfl)))) a_nil)))
      (b_cons (s_set nd (i := 10) rfl (Or.inl rfl) (Or.inr rfl) (d_if (t_cmp opD_lt (d_var (i := 2) rfl (Or.inl rfl)) d_int rfl) (d_call (ok_find c) bd_find (hr.mono (by decide)) rfl tk (a_cons (d_var (i := 1) rfl (Or.inl rfl)) (a_cons (d_var (i := 6) rfl (Or.inr (Or.inl rfl))) (a_cons (d_var (i := 5) rfl (Or.inr (Or.inl rfl))) a_nil)))) (d_callK0 (idx := [2, 1, 0]) (ok_find c) bk_find_0_number_street_book rfl (by decide) (hr.mono (by decide)) rfl tk (k_cons (d_var (i := 5) rfl (Or.inr (Or.inl rfl))) (k_cons (d_var (i := 6) rfl (Or.inr (Or.inl rfl))) (k_cons (d_var (i := 1) rfl (Or.inl rfl)) k_nil))))))
      (b_one (s_if (t_not (t_val (d_call (ok__law_same c 5) bd__law_same (hr.mono (by decide)) rfl tk (a_cons (d_var (i := 10) rfl (Or.inl rfl)) (a_cons (d_var (i := 7) rfl (Or.inl rfl)) a_nil))))) (b_one (s_ret d_bl)) b_nil)))))))))
      (b_one (s_ret d_bl)))

abbrev N_law : List Str := ["script", "deck", "turn", "book", "papers", "told", "some", "go", "at", "thing", "is_it"]
theorem sc_law : FnScope N_law ["script"] (defScope st_law) := ⟨rfl, rfl, rfl, by decide +kernel, rfl, by decide +kernel, by decide +kernel⟩
theorem bd_law : BindOk "law" st_law ["script"] := fun _ _ _ _ _ _ us hl => match us, hl with | [_], _ => rfl
noncomputable def b_law : SM :=
      (sSeq (sAsg (mCall 1 m__law_deck (aCons (mVar 0) aNil)) (gN 1))
      (sSeq (sFor (iRng1 (aCons (mC (.int 4)) aNil)) (gN 2) (sSeq (sAsg (mIf (bVal (mOp ltD (mVar 2) (mC (.int 3)))) (mCall 1 m__law_book (aCons (mVar 1) aNil)) (mCall 2 m__law_pick (aCons (mVar 1) (aCons (mLst (aCons (mTup aNil) (aCons (mTup (aCons (mCall 2 m__law_claim (aCons (mVar 1) (aCons (mC (.int 5)) aNil))) aNil)) aNil))) aNil)))) (gN 3))
      (sSeq (sAsg (mCall 1 m__law_clashes (aCons (mVar 3) aNil)) (gN 4))
      (sSeq (sAsg (mIf (bVal (mOp eqD (mOp modD (mB intfD (aCons (mVar 2) aNil)) (mC (.int 2))) (mC (.int 0)))) (mCall 1 m_judge_book (aCons (mVar 3) aNil)) (mCallK 1 0 1 [0] m_judge_book aNil (aCons (mVar 3) aNil))) (gN 5))
      (sSeq (sIf (bOr (bNot (bVal (mCall 2 m__law_is_paper (aCons (mVar 4) (aCons (mVar 5) aNil))))) (bNot (bVal (mCall 2 m__law_is_found_right (aCons (mVar 1) (aCons (mVar 3) aNil)))))) (sRet (mC (.bl false))) sNil)
      (sSeq (sAsg (mNew (aCons (mIf (bVal (mOp ne0D (mVar 4) (mLst aNil))) (mOp ixD (mVar 4) (mC (.int 0))) (mTup (aCons (mC (.str "clear")) aNil))) (aCons (mTup (aCons (mC (.str "clear")) aNil)) (aCons (mTup (aCons (mC (.str "clear")) (aCons (mC (.int 0)) aNil))) (aCons (mCall 2 m__law_pick (aCons (mVar 1) (aCons (mOp addD (mVar 4) (mLst (aCons (mTup (aCons (mC (.str "clash")) (aCons (mC (.int 0)) (aCons (mC (.int 1)) (aCons (mC (.int 0)) aNil))))) aNil))) aNil))) (aCons (mCall 2 m__law_odd (aCons (mVar 1) (aCons (mTup (aCons (mC (.str "clear")) aNil)) aNil))) aNil)))))) (gN 6))
      (sSeq (sDrop (mM "list" extD (mVar 6) (aCons (mLc (iRng1 (aCons (mC (.int 5)) aNil)) (gN 7) bYes (mIf (bVal (mOp ne0D (mVar 4) (mLst aNil))) (mCall 3 m__law_near (aCons (mVar 1) (aCons (mVar 3) (aCons (mCall 2 m__law_pick (aCons (mVar 1) (aCons (mVar 4) aNil))) aNil)))) (mTup (aCons (mC (.str "clash")) (aCons (mC (.int 0)) (aCons (mOp subD (mB lenD (aCons (mVar 3) aNil)) (mC (.int 1))) (aCons (mC (.int 5)) aNil)))))) [7]) aNil)))
      (sSeq (sFor (iEnA (aCons (mVar 6) aNil)) (gT [(gN 8), (gN 9)]) (sSeq (sAsg (mIf (bVal (mOp eqD (mOp modD (mB intfD (aCons (mVar 8) aNil)) (mC (.int 2))) (mC (.int 0)))) (mCall 2 m_book_holds (aCons (mVar 3) (aCons (mVar 9) aNil))) (mCallK 2 0 2 [1, 0] m_book_holds aNil (aCons (mVar 9) (aCons (mVar 3) aNil)))) (gN 10))
      (sIf (bNot (bVal (mCall 2 (m__law_same 5) (aCons (mVar 10) (aCons (mCall 2 m__law_is_paper (aCons (mVar 4) (aCons (mVar 9) aNil))) aNil))))) (sRet (mC (.bl false))) sNil)))
      (sFor (iRng1 (aCons (mC (.int 3)) aNil)) (gN 7) (sSeq (sAsg (mIf (bVal (mOp eqD (mVar 7) (mC (.int 0)))) (mVar 3) (mCall 2 (m__law_bent 5) (aCons (mVar 1) (aCons (mVar 3) aNil)))) (gN 9))
      (sIf (bNot (bVal (mCall 2 (m__law_same 5) (aCons (mIf (bVal (mOp ltD (mVar 7) (mC (.int 2)))) (mCall 1 m_is_book (aCons (mVar 9) aNil)) (mCallK 1 0 1 [0] m_is_book aNil (aCons (mVar 9) aNil))) (aCons (mCall 1 m__law_is_book (aCons (mVar 9) aNil)) aNil))))) (sRet (mC (.bl false))) sNil)))))))))))
      (sRet (mC (.bl true)))))
noncomputable def m_law : FM := (fun ds S => gcR S (fnP N_law.length b_law ds S))
theorem ok_law (c : Fx K mg) : FD P w K mg base "law" st_law ["script"] 11 m_law := by
    obtain ⟨f, fd, G⟩ := c.g_law
    refine (fd_mk (k := 10) G sc_law fun X W cdv A outer s H E eX eW tk hp hr => ?_).gc
    have hu := hr.units
    have hu65 : X.A.units + 65 < cLine := by have := hr.un; omega
    have hu1 : X.A.units + 1 < cLine := by have := hr.un; omega
    have nd := sc_law.nd
    subst eX
    exact (b_cons (s_set nd (i := 1) rfl (Or.inr rfl) (Or.inl rfl) (d_call (ok__law_deck c) bd__law_deck (hr.mono (by decide)) rfl tk (a_cons (d_var (i := 0) rfl (Or.inl rfl)) a_nil)))
      (b_cons (s_for hp rfl (i_rng1 (by rfl) c.n_range (a_cons d_int a_nil)) (g_name nd (i := 2) rfl (Or.inl rfl) (Or.inr rfl)) (b_cons (s_set nd (i := 3) rfl (Or.inr rfl) (Or.inl rfl) (d_if (t_cmp opD_lt (d_var (i := 2) rfl (Or.inl rfl)) d_int rfl) (d_call (ok__law_book c) bd__law_book (hr.mono (by decide)) rfl tk (a_cons (d_var (i := 1) rfl (Or.inr (Or.inl rfl))) a_nil)) (d_call (ok__law_pick c) bd__law_pick (hr.mono (by decide)) rfl tk (a_cons (d_var (i := 1) rfl (Or.inr (Or.inl rfl))) (a_cons (d_lst (a_cons (d_tup a_nil) (a_cons (d_tup (a_cons (d_call (ok__law_claim c) bd__law_claim (hr.mono (by decide)) rfl tk (a_cons (d_var (i := 1) rfl (Or.inr (Or.inl rfl))) (a_cons d_int a_nil))) a_nil)) a_nil))) a_nil)))))
      (b_cons (s_set nd (i := 4) rfl (Or.inr rfl) (Or.inl rfl) (d_call (ok__law_clashes c) bd__law_clashes (hr.mono (by decide)) rfl tk (a_cons (d_var (i := 3) rfl (Or.inr (Or.inl rfl))) a_nil)))
      (b_cons (s_set nd (i := 5) rfl (Or.inl rfl) (Or.inr rfl) (d_if (t_cmp (opD_eq hu) (d_bin opD_mod (d_Ty (cD_int) (by rfl) c.n_int bt_int (a_cons (d_var (i := 2) rfl (Or.inl rfl)) a_nil)) d_int) d_int rfl) (d_call (ok_judge_book c) bd_judge_book (hr.mono (by decide)) rfl tk (a_cons (d_var (i := 3) rfl (Or.inr (Or.inl rfl))) a_nil)) (d_callK0 (idx := [0]) (ok_judge_book c) bk_judge_book_0_book rfl (by decide) (hr.mono (by decide)) rfl tk (k_cons (d_var (i := 3) rfl (Or.inr (Or.inl rfl))) k_nil))))
      (b_cons (s_if (t_bool (w_or (t_not (t_val (d_call (ok__law_is_paper c) bd__law_is_paper (hr.mono (by decide)) rfl tk (a_cons (d_var (i := 4) rfl (Or.inr (Or.inl rfl))) (a_cons (d_var (i := 5) rfl (Or.inl rfl)) a_nil))))) (w_or1 (t_not (t_val (d_call (ok__law_is_found_right c) bd__law_is_found_right (hr.mono (by decide)) rfl tk (a_cons (d_var (i := 1) rfl (Or.inr (Or.inl rfl))) (a_cons (d_var (i := 3) rfl (Or.inr (Or.inl rfl))) a_nil)))))))) (b_one (s_ret d_bl)) b_nil)
      (b_cons (s_set nd (i := 6) rfl (Or.inl rfl) (Or.inr rfl) (d_new (a_cons (d_if (t_cmp (opD_ne0 hu) (d_var (i := 4) rfl (Or.inr (Or.inl rfl))) (d_lst a_nil) rfl) (d_ix hu1 (d_var (i := 4) rfl (Or.inr (Or.inl rfl))) d_int (fun _ _ => rfl)) (d_tup (a_cons d_str a_nil))) (a_cons (d_tup (a_cons d_str a_nil)) (a_cons (d_tup (a_cons d_str (a_cons d_int a_nil))) (a_cons (d_call (ok__law_pick c) bd__law_pick (hr.mono (by decide)) rfl tk (a_cons (d_var (i := 1) rfl (Or.inr (Or.inl rfl))) (a_cons (d_bin opD_add (d_var (i := 4) rfl (Or.inr (Or.inl rfl))) (d_lst (a_cons (d_tup (a_cons d_str (a_cons d_int (a_cons d_int (a_cons d_int a_nil))))) a_nil))) a_nil))) (a_cons (d_call (ok__law_odd c) bd__law_odd (hr.mono (by decide)) rfl tk (a_cons (d_var (i := 1) rfl (Or.inr (Or.inl rfl))) (a_cons (d_tup (a_cons d_str a_nil)) a_nil))) a_nil)))))))
      (b_cons (s_drop (d_bm PySem.F.plainAttrs_list PySem.F.slot_list_extend PySem.F.type_list_extend mD_ext (d_var (i := 6) rfl (Or.inl rfl)) (a_cons (d_lc rfl nd (i_rng1 (by rfl) c.n_range (a_cons d_int a_nil)) (blkOk_by (own := [("go", 7)]) (by kernel_rfl)) (by decide) (fun s H C cl fp => (g_name nd (i := 7) rfl (Or.inl rfl) (Or.inr rfl))) (fun s H C cl fp => ts_nil) (fun s H C cl fp => (d_if (t_cmp (opD_ne0 hu) (d_var (i := 4) rfl (Or.inr (Or.inl rfl))) (d_lst a_nil) rfl) (d_call (ok__law_near c) bd__law_near (hr.mono (by decide)) rfl takesW0 (a_cons (d_var (i := 1) rfl (Or.inr (Or.inl rfl))) (a_cons (d_var (i := 3) rfl (Or.inr (Or.inl rfl))) (a_cons (d_call (ok__law_pick c) bd__law_pick (hr.mono (by decide)) rfl takesW0 (a_cons (d_var (i := 1) rfl (Or.inr (Or.inl rfl))) (a_cons (d_var (i := 4) rfl (Or.inr (Or.inl rfl))) a_nil))) a_nil)))) (d_tup (a_cons d_str (a_cons d_int (a_cons (d_bin opD_sub (d_B (cD_len) (by rfl) c.n_len bt_len (a_cons (d_var (i := 3) rfl (Or.inr (Or.inl rfl))) a_nil)) d_int) (a_cons d_int a_nil)))))))) a_nil)))
      (b_cons (s_for hp rfl (i_enumA (by rfl) c.n_enumerate (a_cons (d_var (i := 6) rfl (Or.inl rfl)) a_nil)) (g_tup rfl (gs_cons (g_name nd (i := 8) rfl (Or.inl rfl) (Or.inr rfl)) (gs_cons (g_name nd (i := 9) rfl (Or.inl rfl) (Or.inr rfl)) gs_nil))) (b_cons (s_set nd (i := 10) rfl (Or.inl rfl) (Or.inr rfl) (d_if (t_cmp (opD_eq hu) (d_bin opD_mod (d_Ty (cD_int) (by rfl) c.n_int bt_int (a_cons (d_var (i := 8) rfl (Or.inl rfl)) a_nil)) d_int) d_int rfl) (d_call (ok_book_holds c) bd_book_holds (hr.mono (by decide)) rfl tk (a_cons (d_var (i := 3) rfl (Or.inr (Or.inl rfl))) (a_cons (d_var (i := 9) rfl (Or.inl rfl)) a_nil))) (d_callK0 (idx := [1, 0]) (ok_book_holds c) bk_book_holds_0_thing_book rfl (by decide) (hr.mono (by decide)) rfl tk (k_cons (d_var (i := 9) rfl (Or.inl rfl)) (k_cons (d_var (i := 3) rfl (Or.inr (Or.inl rfl))) k_nil)))))
      (b_one (s_if (t_not (t_val (d_call (ok__law_same c 5) bd__law_same (hr.mono (by decide)) rfl tk (a_cons (d_var (i := 10) rfl (Or.inl rfl)) (a_cons (d_call (ok__law_is_paper c) bd__law_is_paper (hr.mono (by decide)) rfl tk (a_cons (d_var (i := 4) rfl (Or.inr (Or.inl rfl))) (a_cons (d_var (i := 9) rfl (Or.inl rfl)) a_nil))) a_nil))))) (b_one (s_ret d_bl)) b_nil))))
      (b_one (s_for hp rfl (i_rng1 (by rfl) c.n_range (a_cons d_int a_nil)) (g_name nd (i := 7) rfl (Or.inl rfl) (Or.inr rfl)) (b_cons (s_set nd (i := 9) rfl (Or.inl rfl) (Or.inr rfl) (d_if (t_cmp (opD_eq hu) (d_var (i := 7) rfl (Or.inl rfl)) d_int rfl) (d_var (i := 3) rfl (Or.inr (Or.inl rfl))) (d_call (ok__law_bent c 5) bd__law_bent (hr.mono (by decide)) rfl tk (a_cons (d_var (i := 1) rfl (Or.inr (Or.inl rfl))) (a_cons (d_var (i := 3) rfl (Or.inr (Or.inl rfl))) a_nil)))))
      (b_one (s_if (t_not (t_val (d_call (ok__law_same c 5) bd__law_same (hr.mono (by decide)) rfl tk (a_cons (d_if (t_cmp opD_lt (d_var (i := 7) rfl (Or.inl rfl)) d_int rfl) (d_call (ok_is_book c) bd_is_book (hr.mono (by decide)) rfl tk (a_cons (d_var (i := 9) rfl (Or.inl rfl)) a_nil)) (d_callK0 (idx := [0]) (ok_is_book c) bk_is_book_0_thing rfl (by decide) (hr.mono (by decide)) rfl tk (k_cons (d_var (i := 9) rfl (Or.inl rfl)) k_nil))) (a_cons (d_call (ok__law_is_book c) bd__law_is_book (hr.mono (by decide)) rfl tk (a_cons (d_var (i := 9) rfl (Or.inl rfl)) a_nil)) a_nil))))) (b_one (s_ret d_bl)) b_nil)))))))))))))
      (b_one (s_ret d_bl))))


end
def fn : List He.DefD := [⟨("is_int", none), "is_int", "is_int", defArgs st_is_int, defBody st_is_int, defScope st_is_int, [], []⟩, ⟨("is_from", none), "is_from", "is_from", defArgs st_is_from, defBody st_is_from, defScope st_is_from, [], []⟩, ⟨("is_between", none), "is_between", "is_between", defArgs st_is_between, defBody st_is_between, defScope st_is_between, [], []⟩, ⟨("is_tuple", none), "is_tuple", "is_tuple", defArgs st_is_tuple, defBody st_is_tuple, defScope st_is_tuple, [], []⟩, ⟨("is_word", none), "is_word", "is_word", defArgs st_is_word, defBody st_is_word, defScope st_is_word, [], []⟩, ⟨("need_number", none), "need_number", "need_number", defArgs st_need_number, defBody st_need_number, defScope st_need_number, [], []⟩, ⟨("is_claim_value", none), "is_claim_value", "is_claim_value", defArgs st_is_claim_value, defBody st_is_claim_value, defScope st_is_claim_value, [], []⟩, ⟨("is_book_value", none), "is_book_value", "is_book_value", defArgs st_is_book_value, defBody st_is_book_value, defScope st_is_book_value, [], []⟩, ⟨("need_book", none), "need_book", "need_book", defArgs st_need_book, defBody st_need_book, defScope st_need_book, [], []⟩, ⟨("last_of", none), "last_of", "last_of", defArgs st_last_of, defBody st_last_of, defScope st_last_of, [], []⟩, ⟨("does_hold", none), "does_hold", "does_hold", defArgs st_does_hold, defBody st_does_hold, defScope st_does_hold, [], []⟩, ⟨("part_and_share", none), "part_and_share", "part_and_share", defArgs st_part_and_share, defBody st_part_and_share, defScope st_part_and_share, [], []⟩, ⟨("common_start", none), "common_start", "common_start", defArgs st_common_start, defBody st_common_start, defScope st_common_start, [], []⟩, ⟨("least_common", none), "least_common", "least_common", defArgs st_least_common, defBody st_least_common, defScope st_least_common, [], []⟩, ⟨("clash_of", none), "clash_of", "clash_of", defArgs st_clash_of, defBody st_clash_of, defScope st_clash_of, [], []⟩, ⟨("is_book", none), "is_book", "is_book", defArgs st_is_book, defBody st_is_book, defScope st_is_book, [], []⟩, ⟨("find", none), "find", "find", defArgs st_find, defBody st_find, defScope st_find, [], []⟩, ⟨("judge_book", none), "judge_book", "judge_book", defArgs st_judge_book, defBody st_judge_book, defScope st_judge_book, [], []⟩, ⟨("book_holds", none), "book_holds", "book_holds", defArgs st_book_holds, defBody st_book_holds, defScope st_book_holds, [], []⟩, ⟨("_law_deck", none), "_law_deck", "_law_deck", defArgs st__law_deck, defBody st__law_deck, defScope st__law_deck, [], []⟩, ⟨("_law_draw", none), "_law_draw", "_law_draw", defArgs st__law_draw, defBody st__law_draw, defScope st__law_draw, [], []⟩, ⟨("_law_pick", none), "_law_pick", "_law_pick", defArgs st__law_pick, defBody st__law_pick, defScope st__law_pick, [], []⟩, ⟨("_law_euclid", none), "_law_euclid", "_law_euclid", defArgs st__law_euclid, defBody st__law_euclid, defScope st__law_euclid, [], []⟩, ⟨("_law_common", none), "_law_common", "_law_common", defArgs st__law_common, defBody st__law_common, defScope st__law_common, [], []⟩, ⟨("_law_holds", none), "_law_holds", "_law_holds", defArgs st__law_holds, defBody st__law_holds, defScope st__law_holds, [], []⟩, ⟨("_law_same", none), "_law_same", "_law_same", defArgs st__law_same, defBody st__law_same, defScope st__law_same, [], []⟩, ⟨("_law_shuffled", none), "_law_shuffled", "_law_shuffled", defArgs st__law_shuffled, defBody st__law_shuffled, defScope st__law_shuffled, [], []⟩, ⟨("_law_odd", none), "_law_odd", "_law_odd", defArgs st__law_odd, defBody st__law_odd, defScope st__law_odd, [], []⟩, ⟨("_law_bent", none), "_law_bent", "_law_bent", defArgs st__law_bent, defBody st__law_bent, defScope st__law_bent, [], []⟩, ⟨("_law_dart", none), "_law_dart", "_law_dart", defArgs st__law_dart, defBody st__law_dart, defScope st__law_dart, [], []⟩, ⟨("_law_claim", none), "_law_claim", "_law_claim", defArgs st__law_claim, defBody st__law_claim, defScope st__law_claim, [], []⟩, ⟨("_law_meeting", none), "_law_meeting", "_law_meeting", defArgs st__law_meeting, defBody st__law_meeting, defScope st__law_meeting, [], []⟩, ⟨("_law_woven", none), "_law_woven", "_law_woven", defArgs st__law_woven, defBody st__law_woven, defScope st__law_woven, [], []⟩, ⟨("_law_book", none), "_law_book", "_law_book", defArgs st__law_book, defBody st__law_book, defScope st__law_book, [], []⟩, ⟨("_law_is_integer", none), "_law_is_integer", "_law_is_integer", defArgs st__law_is_integer, defBody st__law_is_integer, defScope st__law_is_integer, [], []⟩, ⟨("_law_is_book", none), "_law_is_book", "_law_is_book", defArgs st__law_is_book, defBody st__law_is_book, defScope st__law_is_book, [], []⟩, ⟨("_law_clashes", none), "_law_clashes", "_law_clashes", defArgs st__law_clashes, defBody st__law_clashes, defScope st__law_clashes, [], []⟩, ⟨("_law_is_paper", none), "_law_is_paper", "_law_is_paper", defArgs st__law_is_paper, defBody st__law_is_paper, defScope st__law_is_paper, [], []⟩, ⟨("_law_near", none), "_law_near", "_law_near", defArgs st__law_near, defBody st__law_near, defScope st__law_near, [], []⟩, ⟨("_law_is_found_right", none), "_law_is_found_right", "_law_is_found_right", defArgs st__law_is_found_right, defBody st__law_is_found_right, defScope st__law_is_found_right, [], []⟩, ⟨("law", none), "law", "law", defArgs st_law, defBody st_law, defScope st_law, [], []⟩]
def fa : List He.Fa := [.glo "is_int", .glo "is_from", .glo "is_between", .glo "is_tuple", .glo "is_word", .glo "need_number", .glo "is_claim_value", .glo "is_book_value", .glo "need_book", .glo "last_of", .glo "does_hold", .glo "part_and_share", .glo "common_start", .glo "least_common", .glo "clash_of", .glo "is_book", .glo "find", .glo "judge_book", .glo "book_holds", .glo "_law_deck", .glo "_law_draw", .glo "_law_pick", .glo "_law_euclid", .glo "_law_common", .glo "_law_holds", .glo "_law_same", .glo "_law_shuffled", .glo "_law_odd", .glo "_law_bent", .glo "_law_dart", .glo "_law_claim", .glo "_law_meeting", .glo "_law_woven", .glo "_law_book", .glo "_law_is_integer", .glo "_law_is_book", .glo "_law_clashes", .glo "_law_is_paper", .glo "_law_near", .glo "_law_is_found_right", .glo "law", .free "all", .free "bool", .free "enumerate", .free "int", .free "isinstance", .free "len", .free "list", .free "max", .free "min", .free "range", .free "sorted", .free "str", .free "tuple", .free "zip", .str "CLASH" "clash", .str "CLEAR" "clear", .int "MOST_NUMBER" 1000000000, .int "MOST_STEP" 1000000, .int "MOST_STREET" 99]
end K35

namespace K35
open PySem PySem.Spec PyProof.Rows L2 Mi
variable {S T : Sto} {N : Nat}
instance : Bd 47369 64 := ⟨by unfold Sm; decide⟩
instance : Bd 53881 64 := ⟨by unfold Sm; decide⟩
instance : Bd 39373 64 := ⟨by unfold Sm; decide⟩
instance : Bd 48271 64 := ⟨by unfold Sm; decide⟩
instance : Bd 64 64 := ⟨by unfold Sm; decide⟩
instance : Bd 40692 64 := ⟨by unfold Sm; decide⟩
instance : Bd 8 64 := ⟨by unfold Sm; decide⟩
instance : Bd 9 64 := ⟨by unfold Sm; decide⟩
instance : Bd 60 64 := ⟨by unfold Sm; decide⟩
instance : Bd 100 64 := ⟨by unfold Sm; decide⟩
instance : Bd 40 64 := ⟨by unfold Sm; decide⟩
instance : Bd 1048576 64 := ⟨by unfold Sm; decide⟩
instance : Bd 1000000000 64 := ⟨by unfold Sm; decide⟩
instance : Bd 1000000000000000 64 := ⟨by unfold Sm; decide⟩
instance : Bd 4 64 := ⟨by unfold Sm; decide⟩
instance : Bd 5 64 := ⟨by unfold Sm; decide⟩
instance : Bd 6 64 := ⟨by unfold Sm; decide⟩
instance : Bd 7 64 := ⟨by unfold Sm; decide⟩
instance : Bd 11 64 := ⟨by unfold Sm; decide⟩
instance : Bd 12 64 := ⟨by unfold Sm; decide⟩
instance : Bd 13 64 := ⟨by unfold Sm; decide⟩
instance : Bd 16 64 := ⟨by unfold Sm; decide⟩
instance : Bd 18 64 := ⟨by unfold Sm; decide⟩
instance : Bd 30 64 := ⟨by unfold Sm; decide⟩
instance : Bd 50 64 := ⟨by unfold Sm; decide⟩
instance : Bd 63 64 := ⟨by unfold Sm; decide⟩
instance : Bd 83 64 := ⟨by unfold Sm; decide⟩
instance : Bd 90 64 := ⟨by unfold Sm; decide⟩
instance : Bd 99 64 := ⟨by unfold Sm; decide⟩
instance : Bd 200 64 := ⟨by unfold Sm; decide⟩
instance : Bd 211 64 := ⟨by unfold Sm; decide⟩
instance : Bd 1000 64 := ⟨by unfold Sm; decide⟩
instance : Bd 7919 64 := ⟨by unfold Sm; decide⟩
instance : Bd 50021 64 := ⟨by unfold Sm; decide⟩
instance : Bd 61441 64 := ⟨by unfold Sm; decide⟩
instance : Bd 100000 64 := ⟨by unfold Sm; decide⟩
instance : Bd 15374035 64 := ⟨by unfold Sm; decide⟩
instance : Bd 2147483563 64 := ⟨by unfold Sm; decide⟩
instance : Bd 2147483587 64 := ⟨by unfold Sm; decide⟩
instance : Bd 2147483629 64 := ⟨by unfold Sm; decide⟩
instance : Bd 2147483647 64 := ⟨by unfold Sm; decide⟩
instance : Bd 1000000000000000000 64 := ⟨by unfold Sm; decide⟩
theorem is_int_eq {i : Int} : m_is_int [.int i] S = .ok (.bl true) S := ens_eq (by
  simp [m_is_int, b_is_int, startE, isiD, D.tyn, askTys, isiB])
theorem is_from_eq {i j : Int} : m_is_from [.int i, .int j] S = .ok (.bl (decide (j ≤ i))) S := ens_eq (by
  simp [m_is_from, b_is_from, startE, Ens_is is_int_eq])
theorem is_tuple_eq {l : List D} {j : Int} : m_is_tuple [.tup l, .int j] S = .ok (.bl (decide ((l.length : Int) = j))) S := ens_eq (by
  simp [m_is_tuple, b_is_tuple, startE, isiD, D.tyn, askTys, isiB])
theorem bd_mod {i j : Int} (k : Nat) (h : 0 < j) (hj : j ≤ 2 ^ k) : Bd (i.fmod j) k := by
  rw [Int.fmod_eq_emod_of_nonneg _ (by omega)]
  have := Int.emod_lt_of_pos i h
  have := Int.emod_nonneg i (b := j) (by omega)
  exact bd_lt (by omega) (by omega)
theorem draw_ok {N : Nat} {T S : Sto} {many : Int} (h : DkP N T S) (hN : N ≤ 1000000000) (h1 : 1 ≤ many) (hb : Bd many 1000) :
    Ens (m__law_draw [.loc 1, .int many] S) fun a S' => ∃ v, a = .int v ∧ 0 ≤ v ∧ v < many ∧ DkP (N + 1) T S' := by
  obtain ⟨c, m, n, hS, hc, hm0, hm1, hn0, hn1⟩ := h
  subst hS
  have b1 : Bd n 64 := bd_lt (by omega) (by omega)
  have b2 : Bd m 64 := bd_lt (by omega) (by omega)
  have hm : many ≠ 0 := by omega
  have hx : (if 2 < many then many else 2) ≠ 0 := by split <;> omega
  have hd : ∀ i : Int, 0 ≤ i.fmod many ∧ i.fmod many < many := fun i => by
    rw [Int.fmod_eq_emod_of_nonneg _ (by omega)]
    exact ⟨Int.emod_nonneg i hm, Int.emod_lt_of_pos i (by omega)⟩
  have e0 : ∀ i : Int, Bd (i.fmod 2147483563) 64 := fun i => bd_mod 64 (by decide) (by decide)
  have e1 : ∀ i : Int, Bd (i.fmod 2147483587) 64 := fun i => bd_mod 64 (by decide) (by decide)
  have e2 : ∀ i : Int, Bd (i.fmod 2147483629) 64 := fun i => bd_mod 64 (by decide) (by decide)
  have e3 : ∀ i : Int, Bd (i.fmod 2147483647) 64 := fun i => bd_mod 64 (by decide) (by decide)
  have fin : ∀ (i : Int) (c' : List Int), c'.length ≤ 63 → ∃ v, D.int (i.fmod many) = .int v ∧ 0 ≤ v ∧ v < many ∧ DkP (N + 1) T (deckS c' m (n + 1) T) := fun i c' hc' =>
    ⟨_, rfl, (hd i).1, (hd i).2, c', m, n + 1, rfl, hc', hm0, hm1, by omega, by omega⟩
  simp [m__law_draw, b__law_draw, startE, modD_int, fdivD_int, hm]
  refine ⟨fun hne => ?_, fun he => ?_⟩
  · have hl : c.dropLast.length ≤ 62 := by simp; omega
    simp [dk_pop hne, modD_int, fdivD_int, hm, hx]
    refine ⟨fun _ => ?_, fun _ => ?_⟩
    · rw [dk_app (by omega)]
      simp [modD_int, hm]
      exact ⟨(hd _).1, (hd _).2, _, m, n + 1, rfl, by simp; omega, hm0, hm1, by omega, by omega⟩
    · exact ⟨(hd _).1, (hd _).2, _, m, n + 1, rfl, by omega, hm0, hm1, by omega, by omega⟩
  · exact ⟨(hd _).1, (hd _).2, _, m, n + 1, rfl, by omega, hm0, hm1, by omega, by omega⟩
abbrev t3 (x y w : Int) : D := .tup [.int x, .int y, .int w]
abbrev t2 (x y : Int) : D := .tup [.int x, .int y]
section
variable {p0 p1 p2 q0 q1 q2 r0 r1 r2 n d : Int} [Bd p0 50] [Bd p1 50] [Bd p2 50] [Bd q0 50] [Bd q1 50] [Bd q2 50] [Bd r0 50] [Bd r1 50] [Bd r2 50]
def shX (a b pw qw n d : Int) : Int := a * qw * (d - n) + b * pw * n
end
@[simp] theorem rep2 {a : D} : (List.replicate (2 : Int).toNat [a]).flatten = [a, a] := rfl
@[simp] theorem rep3 {a : D} : (List.replicate (3 : Int).toNat [a]).flatten = [a, a, a] := rfl
def fit : Nat → D → Bool
  | 0, _ => false
  | n + 1, .tup l => l.all (fit n) && decide (l.length ≤ 1000)
  | _ + 1, .int _ => true
  | _ + 1, .bl _ => true
  | _ + 1, .non => true
  | _ + 1, .str x => SeqAt.shaped (.str x)
  | _ + 1, _ => false
theorem zipD_get' {l m : List D} {i : Nat} {d : D} (h : (zipD l m)[i]? = some d) : ∃ x y, l[i]? = some x ∧ m[i]? = some y ∧ d = .tup [x, y] := by
  unfold zipD at h
  rw [List.getElem?_map] at h
  cases e : (l.zip m)[i]? with
  | none => rw [e] at h; cases h
  | some p =>
    rw [e] at h
    cases h
    rw [List.getElem?_zip_eq_some] at e
    exact ⟨_, _, e.1, e.2, rfl⟩
theorem same_ok : ∀ (n : Nat) (d : D), fit n d = true → ∀ S, m__law_same n [d, d] S = .ok (.bl true) S
  | 0, d, h => by cases h
  | n + 1, d, h => fun S => ens_eq (by
    have ih := same_ok n
    cases d with
    | int i => simp [m__law_same, b__law_same, startE, isiD, D.tyn, askTys, isiB, D.isNon]
    | bl i =>
      simp [m__law_same, b__law_same, startE, isiD, D.tyn, askTys, isiB, D.isNon]
    | non => simp [m__law_same, b__law_same, startE, isiD, D.tyn, askTys, isiB, D.isNon]
    | str x =>
      have hx : SeqAt.shaped (.str x) = true := h
      simp [m__law_same, b__law_same, startE, isiD, D.tyn, askTys, isiB, D.isNon, eqD_str hx]
    | tup l =>
      have h' : l.all (fit n) = true ∧ l.length ≤ 1000 := by simpa [fit] using h
      simp [m__law_same, b__law_same, startE, isiD, D.tyn, askTys, isiB, D.isNon]
      refine lc_inv (fun k acc T => acc = [] ∧ T = S) _ 0 [] S ⟨rfl, rfl⟩ (fun _ _ _ _ _ _ => trivial) (fun i d acc T _ hd hi => ?_) (fun acc T hi => ?_)
      · obtain ⟨x, y, hx, hy, e⟩ := zipD_get' hd
        subst e
        rw [hx] at hy
        cases hy
        have hf : fit n x = true := List.all_eq_true.mp h'.1 x (List.mem_of_getElem? hx)
        obtain ⟨h1, h2⟩ := hi
        subst h1 h2
        simp [wipeE, Ens_is (ih x hf _)]
      · obtain ⟨h1, h2⟩ := hi
        subst h1 h2
        simp [eqD, der, D.py, D.pys, SeqAt.shaped, PyData.canLay0, PyData.canLayAll0, PyData.depth, PyData.depthAll, PyData.eqv, PyData.eqvAll]
    | _ => cases h)
theorem pick_ok {l : List D} (h : DkP N T S) (hN : N ≤ 1000000000) (hl : l ≠ []) (hlen : l.length ≤ 1000) :
    Ens (m__law_pick [.loc 1, .tup l] S) fun a S' => a ∈ l ∧ DkP (N + 1) T S' := by
  have h0 : 0 < l.length := List.length_pos_iff.mpr hl
  have b : Bd (l.length : Int) 64 := bd_lt (by omega) (by omega)
  simp [m__law_pick, b__law_pick, startE]
  refine (draw_ok h hN (by omega) (Bd.up b (by decide))).mono ?_
  rintro _ S1 ⟨v, ha, hv0, hv1, h1⟩
  subst ha
  obtain ⟨d, e1, e2⟩ := atI_nat (l := l) hv0 hv1
  rw [ixD_tup, e1]
  exact ⟨List.mem_of_getElem? e2, h1⟩
theorem cut_map {f : Int → D} {l : List Int} {lo hi : Option Int} : ∃ l' : List Int, Mi.cutD (l.map f) lo hi = l'.map f ∧ l'.length ≤ l.length := by
  refine ⟨(l.drop (HT.sIx l.length 0 lo)).take (HT.sIx l.length l.length hi - HT.sIx l.length 0 lo), ?_, ?_⟩
  · unfold Mi.cutD
    rw [List.length_map, List.map_take, List.map_drop]
  · rw [List.length_take, List.length_drop]; omega
theorem getI {l : List Int} {i : Nat} {d : D} (h : (l.map D.int)[i]? = some d) : ∃ v, l[i]? = some v ∧ d = .int v := by
  rw [List.getElem?_map] at h
  cases e : l[i]? with
  | none => rw [e] at h; cases h
  | some v => rw [e] at h; cases h; exact ⟨v, rfl, rfl⟩
theorem deck_ok (ns : List Int) (hl : ns.length ≤ 63) (d : D) (hd : d = D.lst (ns.map D.int) ∨ d = D.wls (ns.map D.int)) :
    Ens (m__law_deck [d] []) fun a S' => a = .loc 1 ∧ DkP 0 [] S' := by
  obtain ⟨l', e, hl'⟩ := cut_map (f := D.int) (l := ns) (lo := none) (hi := some 63)
  have hs : ∀ S, slD S d none (some 63) = some (.lst (l'.map D.int)) := fun S => by
    rw [← e]
    rcases hd with h | h <;> subst h <;> rfl
  simp [m__law_deck, b__law_deck, startE, hs]
  refine for_inv (fun k env S => S = [] ∧ ∃ (m : Int) (x : Option D), 0 ≤ m ∧ m < 2147483629 ∧ env = [some d, some (.int m), x]) _ 0 _ _ ⟨rfl, 15374035, none, by decide, by decide, rfl⟩ (fun _ _ _ _ _ _ => trivial) (fun i d' env S _ hd' hi => ?_) (fun env S hi => ?_)
  · obtain ⟨e1, m, x, h0, h1, e2⟩ := hi
    obtain ⟨v, _, e3⟩ := getI hd'
    subst e1 e2 e3
    have b : Bd m 64 := bd_lt (by omega) (by omega)
    simp [modD_int]
    rw [Int.fmod_eq_emod_of_nonneg _ (by decide)]
    exact ⟨Int.emod_nonneg _ (by decide), Int.lt_of_lt_of_le (Int.emod_lt_of_pos _ (by decide)) (by decide)⟩
  · obtain ⟨e1, m, x, h0, h1, e2⟩ := hi
    subst e1 e2
    simp [hs, wipeE]
    refine lc_inv (fun k acc S => S = [] ∧ acc = (l'.take k).map D.int) _ 0 _ _ ⟨rfl, rfl⟩ (fun _ _ _ _ _ _ => trivial) (fun i d' acc S hk hd' hi => ?_) (fun acc S hi => ?_)
    · obtain ⟨e1, e2⟩ := hi
      obtain ⟨v, e4, e3⟩ := getI hd'
      subst e1 e3
      have hlen : acc.length < 16777216 := by rw [e2, List.length_map, List.length_take]; omega
      simp [hlen]
      rw [e2, List.take_succ]
      rw [show i - 0 = i from rfl] at e4
      simp [e4]
    · obtain ⟨e1, e2⟩ := hi
      subst e1
      have e3 : acc = l'.map D.int := by
        rw [e2]; simp
      subst e3
      simp [revD, kvsD, keyD]
      refine ⟨l'.reverse, m, 0, ?_, by simp; omega, h0, h1, by decide, by decide⟩
      rw [← List.map_reverse]
      rfl
def absI (x : Int) : Int := if x < 0 then -x else x
theorem rng_get {n i : Nat} {d : D} (h : (rangeD 0 n)[i]? = some d) : i < n ∧ d = .int (i : Int) := by
  have hi : i < n := by
    have := (List.getElem?_eq_some_iff.mp h).1
    rwa [rangeD_length] at this
  rw [rangeD_get hi] at h
  cases h
  exact ⟨hi, by simp⟩
theorem low_bd {x y w : Int} {i j : Nat} [bx : Bd x i] [by_ : Bd y i] [bw : Bd w j] (hw : 0 < w) : ∃ a b c, spD3 x y w = t3 a b c ∧ 0 < c ∧ Bd a i ∧ Bd b i ∧ Bd c j ∧ g3 a b c = 1 := by
  obtain ⟨g, a, b, c, hg, ha, hb, hc, hc0, hcw, hl, e, h1, h2⟩ := low_parts (x := x) (y := y) hw
  exact ⟨a, b, c, e, hc0, ⟨bx.h.of_le h1⟩, ⟨by_.h.of_le h2⟩, ⟨bw.h.of_le (by omega)⟩, hl⟩
theorem app_end {l : List D} {d : D} (h : l.length < 16777216) : appD (S ++ [.lst l]) (.loc S.length) [d] = some (.non, S ++ [.lst (l ++ [d])]) := by
  have e : (S ++ [O.lst l])[S.length]? = some (.lst l) := by simp
  have e2 : (S ++ [O.lst l]).set S.length (.lst (l ++ [d])) = S ++ [.lst (l ++ [d])] := by simp
  unfold appD
  simp only [e, h, if_true, e2]
theorem isT_end {l : List D} : isT (S ++ [.lst l]) "list" (.loc S.length) = true := by
  have e : (S ++ [O.lst l])[S.length]? = some (.lst l) := by simp
  unfold isT
  simp only [e]
  rfl
theorem tuple_end {l : List D} : tupleD (S ++ [.lst l]) [.loc S.length] = some (.tup l) := by
  have e : (S ++ [O.lst l])[S.length]? = some (.lst l) := by simp
  simp [tupleD, seqD, der, e]
theorem ens_gc {r : R D} {P : D → Sto → Prop} (h : Ens r fun d S' => gcOk S S' ∧ d.lo S.length ∧ P d (S'.take S.length)) : Ens (gcR S r) P := by
  cases r with
  | ok d S' =>
    obtain ⟨h1, h2, h3⟩ := h
    simp only [gcR]
    rw [if_pos ⟨h1, h2⟩]
    exact h3
  | exc C fs S' => exact h.elim
  | bad => exact h.elim
theorem gc_app {o : O} : gcOk S (S ++ [o]) := ⟨by simp, fun i hi => .inl (by rw [List.getElem?_append_left hi])⟩
theorem atI_map {l : List D} {d : D} {f : D → D} (h : L2.atI l 0 = some d) : L2.atI (l.map f) 0 = some (f d) := by
  cases l with
  | nil => simp [L2.atI, L2.ixN] at h
  | cons a l => simp at h ⊢; rw [h]
theorem atI_mem {l : List D} {d : D} (h : L2.atI l 0 = some d) : d ∈ l := by
  cases l with
  | nil => simp [L2.atI, L2.ixN] at h
  | cons a l => simp at h; subst h; exact List.mem_cons_self
theorem shX_rev {a b pw qw n d : Int} : shX b a qw pw (d - n) d = shX a b pw qw n d := by
  unfold shX
  grind
theorem sq_nonneg (a : Int) : 0 ≤ a * a := by
  rcases Int.le_total 0 a with h | h
  · exact Int.mul_nonneg h h
  · exact Int.mul_nonneg_of_nonpos_of_nonpos h h
theorem sq_pos {a : Int} (h : a ≠ 0) : 0 < a * a := by
  have := sq_nonneg a
  have : a * a ≠ 0 := fun z => by
    rcases Int.mul_eq_zero.mp z with q | q <;> exact h q
  omega
theorem bls_rep {k : Nat} : blsD (List.replicate k (D.bl true)) = some (List.replicate k true) := by
  induction k with
  | zero => rfl
  | succ k ih => simp [List.replicate_succ, blsD, ih]
end K35

namespace K35
open PySem PySem.Spec PyProof.Rows L2 Mi
variable {S T : Sto} {N : Nat}
theorem absI_nonneg (x : Int) : 0 ≤ absI x := by unfold absI; split <;> omega
theorem absI_mul_pos {x t : Int} (h : 0 ≤ t) : absI (t * x) = t * absI x := by
  unfold absI
  by_cases hx : x < 0
  · rw [if_pos hx]
    by_cases ht : t = 0
    · subst ht; simp
    · rw [if_pos (Int.mul_neg_of_pos_of_neg (by omega) hx)]; grind
  · rw [if_neg hx, if_neg (by have := Int.mul_nonneg h (show 0 ≤ x by omega); omega)]
/-- the state of the long division: near, share, far, far_share -/
structure Eu (a b n s f z : Int) : Prop where
  a1 : 1 ≤ a
  n1 : 1 ≤ n
  f0 : 0 ≤ f
  g : g2 n f = g2 a b
  e1 : ∃ y, a * s + b * y = n
  e2 : ∃ y, a * z + b * y = f
  sg : (0 ≤ s ∧ z ≤ 0) ∨ (s ≤ 0 ∧ 0 ≤ z)
  sz : n * absI z + f * absI s = b
  na : n ≤ a + b
  fb : f ≤ b
  sb : absI s ≤ b
theorem eu_start {a b : Int} (ha : 1 ≤ a) (hb : 1 ≤ b) : Eu a b a 1 b 0 where
  a1 := ha
  n1 := ha
  f0 := by omega
  g := rfl
  e1 := ⟨0, by omega⟩
  e2 := ⟨1, by omega⟩
  sg := .inl ⟨by omega, by omega⟩
  sz := by simp [absI]
  na := by omega
  fb := by omega
  sb := by simp [absI]; omega
theorem eu_step {a b n s f z : Int} (h : Eu a b n s f z) (hf : f ≠ 0) : Eu a b f z (n - n / f * f) (s - n / f * z) := by
  have hf1 : 0 < f := by have := h.f0; omega
  have hn1 := h.n1
  have em : n - n / f * f = n % f := by have := Int.emod_def n f; rw [Int.mul_comm] at this; omega
  have t0 : 0 ≤ n / f := Int.ediv_nonneg (by omega) (by omega)
  have m0 := Int.emod_nonneg n hf
  have m1 := Int.emod_lt_of_pos n hf1
  obtain ⟨y1, q1⟩ := h.e1
  obtain ⟨y2, q2⟩ := h.e2
  refine ⟨h.a1, by omega, by omega, ?_, ⟨y2, q2⟩, ⟨y1 - n / f * y2, ?_⟩, ?_, ?_, ?_, ?_, ?_⟩
  · rw [em, g2_step (by omega) hf1]; exact h.g
  · have : a * (s - n / f * z) + b * (y1 - n / f * y2) = (a * s + b * y1) - n / f * (a * z + b * y2) := by grind
    rw [this, q1, q2]
  · rcases h.sg with ⟨u, v⟩ | ⟨u, v⟩
    · have := Int.mul_nonpos_of_nonneg_of_nonpos t0 v
      exact .inr ⟨v, by omega⟩
    · have := Int.mul_nonneg t0 v
      exact .inl ⟨v, by omega⟩
  · have e : absI (s - n / f * z) = absI s + n / f * absI z := by
      rcases h.sg with ⟨u, v⟩ | ⟨u, v⟩
      · have := Int.mul_nonpos_of_nonneg_of_nonpos t0 v
        have e3 : absI z = -z := by unfold absI; split <;> omega
        rw [e3]
        have e4 : n / f * -z = -(n / f * z) := by grind
        rw [e4]
        unfold absI
        split <;> split <;> omega
      · have := Int.mul_nonneg t0 v
        have e3 : absI z = z := by unfold absI; split <;> omega
        rw [e3]
        unfold absI
        split <;> split <;> omega
    rw [e, ← h.sz]
    grind
  · have := h.fb
    have := h.a1
    omega
  · have := h.fb
    omega
  · have hz := absI_nonneg z
    have k := Int.mul_le_mul_of_nonneg_right hn1 hz
    have k4 := Int.mul_nonneg (Int.le_of_lt hf1) (absI_nonneg s)
    have := h.sz
    omega
theorem eu_end {a b n s z : Int} (h : Eu a b n s 0 z) (hb : b ≤ 1000000000000) : n = g2 a b ∧ (∃ y, a * s + b * y = g2 a b) ∧ Bd s 64 := by
  have e : n = g2 a b := by rw [← h.g, g2_zero (by have := h.n1; omega)]
  refine ⟨e, by rw [← e]; exact h.e1, ?_⟩
  have sb := h.sb
  unfold absI at sb
  split at sb <;> exact bd_lt (by omega) (by omega)
theorem eu_bd {a b n s f z : Int} (h : Eu a b n s f z) (ha : a ≤ 1000000000000) (hb : b ≤ 1000000000000) (hf : f ≠ 0) : Bd n 64 ∧ Bd s 64 ∧ Bd f 64 ∧ Bd z 64 ∧ Bd (n / f) 64 := by
  have h1 := h.n1
  have h2 := h.f0
  have h3 := h.na
  have h4 := h.fb
  have hs := absI_nonneg s
  have hz := absI_nonneg z
  have e := h.sz
  have k1 : absI s ≤ f * absI s := by
    have := Int.mul_le_mul_of_nonneg_right (show 1 ≤ f by omega) hs
    omega
  have k2 : absI z ≤ n * absI z := by
    have := Int.mul_le_mul_of_nonneg_right h1 hz
    omega
  have k3 := Int.mul_nonneg (show 0 ≤ n by omega) hz
  have k4 := Int.mul_nonneg h2 hs
  have s1 : absI s ≤ 1000000000000 := by omega
  have z1 : absI z ≤ 1000000000000 := by omega
  have q0 : 0 ≤ n / f := Int.ediv_nonneg (by omega) h2
  have q1 : n / f ≤ n := Int.ediv_le_self f (by omega)
  refine ⟨bd_lt (by omega) (by omega), ?_, bd_lt (by omega) (by omega), ?_, bd_lt (by omega) (by omega)⟩
  · unfold absI at s1
    split at s1 <;> exact bd_lt (by omega) (by omega)
  · unfold absI at z1
    split at z1 <;> exact bd_lt (by omega) (by omega)
theorem part_ok {a b : Int} (ha : 1 ≤ a) (hb : 1 ≤ b) (ha2 : a ≤ 1000000000000) (hb2 : b ≤ 1000000000000) :
    Ens (m_part_and_share [.int a, .int b] S) fun r S' => ∃ s, r = t2 (g2 a b) s ∧ S' = S ∧ (∃ y, a * s + b * y = g2 a b) ∧ Bd s 64 := by
  simp [m_part_and_share, b_part_and_share, startE]
  have key : ∀ (k : Nat) (n s f z : Int) (x : Option D), f ≤ k → Eu a b n s f z →
      EnsS (sWhile (bVal (mOp neD (mVar 4) (mC (.int 0)))) (sSeq (sAsg (mOp fdivD (mVar 2) (mVar 4)) (gN 6))
        (sAsg (mTup (aCons (mTup (aCons (mVar 4) (aCons (mVar 5) aNil))) (aCons (mTup (aCons (mOp subD (mVar 2) (mOp mulD (mVar 6) (mVar 4))) (aCons (mOp subD (mVar 3) (mOp mulD (mVar 6) (mVar 5))) aNil))) aNil))) (gT [(gT [(gN 2), (gN 3)]), (gT [(gN 4), (gN 5)])])))
        [some (.int a), some (.int b), some (.int n), some (.int s), some (.int f), some (.int z), x] S)
        (RS.then (endP fun r S' => ∃ s, r = t2 (g2 a b) s ∧ S' = S ∧ (∃ y, a * s + b * y = g2 a b) ∧ Bd s 64) (sRet (mTup (aCons (mVar 2) (aCons (mVar 3) aNil))))) := by
    intro k
    induction k with
    | zero =>
      intro n s f z x hf h
      have f0 : f = 0 := by have := h.f0; omega
      subst f0
      rw [EnsS_while]
      obtain ⟨e1, e2, e3⟩ := eu_end h hb2
      simp
      exact ⟨s, ⟨e1, rfl⟩, e2, e3⟩
    | succ k ih =>
      intro n s f z x hf h
      rw [EnsS_while]
      by_cases f0 : f = 0
      · subst f0
        obtain ⟨e1, e2, e3⟩ := eu_end h hb2
        simp
        exact ⟨s, ⟨e1, rfl⟩, e2, e3⟩
      · obtain ⟨b1, b2, b3, b4, b5⟩ := eu_bd h ha2 hb2 f0
        have hf0 := h.f0
        have e : n.fdiv f = n / f := Int.fdiv_eq_ediv_of_nonneg _ hf0
        simp [f0, fdivD_int, e]
        refine ih _ _ _ _ _ ?_ (eu_step h f0)
        have em : n - n / f * f = n % f := by have := Int.emod_def n f; rw [Int.mul_comm] at this; omega
        have := Int.emod_lt_of_pos n (b := f) (by omega)
        omega
  exact key b.toNat a 1 b 0 none (by omega) (eu_start ha hb)
end K35

namespace K35
open PySem PySem.Spec PyProof.Rows L2 Mi
variable {S T : Sto} {N : Nat}
/-- a long division halves the product of its two numbers -/
theorem eu_half {n f : Int} (h1 : 0 < f) (h2 : f ≤ n) : f * (n - n / f * f) * 2 ≤ n * f ∧ n - n / f * f ≤ f := by
  have em : n - n / f * f = n % f := by have := Int.emod_def n f; rw [Int.mul_comm] at this; omega
  have m0 := Int.emod_nonneg n (b := f) (by omega)
  have m1 := Int.emod_lt_of_pos n h1
  have q1 : 1 ≤ n / f := by
    have := Int.ediv_le_ediv h1 h2
    rw [Int.ediv_self (by omega)] at this
    exact this
  have q2 : f ≤ n / f * f := by
    have := Int.mul_le_mul_of_nonneg_right q1 (Int.le_of_lt h1)
    omega
  have q3 : (n - n / f * f) * 2 ≤ n := by omega
  refine ⟨?_, by omega⟩
  have := Int.mul_le_mul_of_nonneg_left q3 (Int.le_of_lt h1)
  have e : f * (n - n / f * f) * 2 = f * ((n - n / f * f) * 2) := by grind
  have e2 : n * f = f * n := Int.mul_comm ..
  rw [e, e2]
  exact this
theorem euclid_ok {a b : Int} (ha : 1 ≤ a) (hb : 1 ≤ b) (ha2 : a ≤ 1000000000000) (hb2 : b ≤ 1000000000000) :
    Ens (m__law_euclid [.int a, .int b] S) fun r S' => ∃ s, r = t2 (g2 a b) s ∧ S' = S ∧ (∃ y, a * s + b * y = g2 a b) ∧ Bd s 64 := by
  simp [m__law_euclid, b__law_euclid, startE]
  have key : ∀ (l : List D) (n s f z : Int) (x x2 : Option D), f ≤ n → n * f < 2 ^ l.length → Eu a b n s f z →
      EnsS (forD (gN 6) (sSeq (sIf (bVal (mOp eqD (mVar 3) (mC (.int 0)))) sBk sNil)
      (sSeq (sAsg (mOp fdivD (mVar 2) (mVar 3)) (gN 7))
      (sAsg (mTup (aCons (mVar 3) (aCons (mOp subD (mVar 2) (mOp mulD (mVar 7) (mVar 3))) (aCons (mVar 5) (aCons (mOp subD (mVar 4) (mOp mulD (mVar 7) (mVar 5))) aNil))))) (gT [(gN 2), (gN 3), (gN 4), (gN 5)])))) (fun _ => True) l
        [some (.int a), some (.int b), some (.int n), some (.int f), some (.int s), some (.int z), x, x2] S)
        (RS.then (endP fun r S' => ∃ s, r = t2 (g2 a b) s ∧ S' = S ∧ (∃ y, a * s + b * y = g2 a b) ∧ Bd s 64) (sRet (mTup (aCons (mVar 2) (aCons (mVar 4) aNil))))) := by
    intro l
    induction l with
    | nil =>
      intro n s f z x x2 hfn hm h
      have f0 : f = 0 := by
        have h1 := h.n1
        have h2 := h.f0
        have := Int.mul_le_mul_of_nonneg_right h1 h2
        simp at hm
        omega
      subst f0
      obtain ⟨e1, e2, e3⟩ := eu_end h hb2
      rw [EnsS_for_nil]
      simp
      exact ⟨s, ⟨e1, rfl⟩, e2, e3⟩
    | cons d l ih =>
      intro n s f z x x2 hfn hm h
      rw [EnsS_for_cons]
      by_cases f0 : f = 0
      · subst f0
        obtain ⟨e1, e2, e3⟩ := eu_end h hb2
        simp
        exact ⟨s, ⟨e1, rfl⟩, e2, e3⟩
      · obtain ⟨b1, b2, b3, b4, b5⟩ := eu_bd h ha2 hb2 f0
        have hf0 := h.f0
        have e : n.fdiv f = n / f := Int.fdiv_eq_ediv_of_nonneg _ hf0
        obtain ⟨u1, u2⟩ := eu_half (show 0 < f by omega) hfn
        simp [f0, fdivD_int, e]
        refine ih _ _ _ _ _ _ u2 ?_ (eu_step h f0)
        rw [List.length_cons, Int.pow_succ] at hm
        omega
  have big : a * b < 2 ^ 150 := by
    have h1 := Int.mul_le_mul ha2 hb2 (by omega) (by decide)
    have h2 : (1000000000000 : Int) * 1000000000000 < 2 ^ 150 := by decide
    omega
  by_cases hab : b ≤ a
  · refine key _ _ _ _ _ _ _ hab ?_ (eu_start ha hb)
    rw [rangeD_length]
    have : (2 : Int) ^ 150 < 2 ^ 200 := by decide
    omega
  · have hl : (rangeD 0 200).length = 200 := rangeD_length
    generalize rangeD 0 200 = l at hl
    match l, hl with
    | d :: l, hl =>
      have hl2 : l.length = 199 := by simpa using hl
      have h := eu_start ha hb
      obtain ⟨b1, b2, b3, b4, b5⟩ := eu_bd h ha2 hb2 (show b ≠ 0 by omega)
      have e : a.fdiv b = a / b := Int.fdiv_eq_ediv_of_nonneg _ (by omega)
      have q : a / b = 0 := Int.ediv_eq_zero_of_lt (by omega) (by omega)
      have st := eu_step h (show b ≠ 0 by omega)
      rw [EnsS_for_cons]
      simp [show b ≠ 0 by omega, fdivD_int, e]
      rw [q] at st ⊢
      simp only [Int.zero_mul, Int.sub_zero] at st ⊢
      refine key _ _ _ _ _ _ _ (by omega) ?_ st
      rw [hl2]
      have : (2 : Int) ^ 150 < 2 ^ 199 := by decide
      rw [Int.mul_comm b a]
      omega
end K35

namespace K35
open PySem PySem.Spec PyProof.Rows L2 Mi
/-- what both steps divide, their product over the common part divides -/
theorem lcm_dvd {s1 s2 g u v p x : Int} (hg : 0 < g) (hb : s1 * u + s2 * v = g) (h1 : s1 = g * p) (d1 : s1 ∣ x) (d2 : s2 ∣ x) : p * s2 ∣ x := by
  obtain ⟨a, ha⟩ := d1
  obtain ⟨b, hb2⟩ := d2
  refine ⟨b * u + a * v, ?_⟩
  have e : g * x = g * (p * s2 * (b * u + a * v)) := by
    have e1 : g * x = (s1 * u + s2 * v) * x := by rw [hb]
    have e2 : (s1 * u + s2 * v) * x = s1 * u * x + s2 * v * x := by grind
    have e3 : s1 * u * x = s1 * u * (s2 * b) := by rw [← hb2]
    have e4 : s2 * v * x = s2 * v * (s1 * a) := by rw [← ha]
    rw [e1, e2, e3, e4, h1]
    grind
  exact Int.eq_of_mul_eq_mul_left (by omega) e
/-- the start of what two rows of numbers have in common -/
theorem start_ok {f1 s1 f2 s2 g p r u v t : Int} (hg : 0 < g) (h1 : s1 = g * p) (h2 : s2 = g * r) (hb : s1 * u + s2 * v = g) (hd : f2 - f1 = g * t) :
    s2 ∣ (f1 + s1 * (t * u % r)) - f2 := by
  have e : t * u % r = t * u - r * (t * u / r) := Int.emod_def _ _
  rw [e]
  refine ⟨-(t * v) - p * (t * u / r), ?_⟩
  have e1 : s1 * (t * u) = g * t - s2 * (t * v) := by
    have : s1 * (t * u) = (s1 * u) * t := by grind
    rw [this, show s1 * u = g - s2 * v by omega]
    grind
  have e2 : s1 * (r * (t * u / r)) = s2 * (p * (t * u / r)) := by rw [h1, h2]; grind
  have e3 : f1 + s1 * (t * u - r * (t * u / r)) - f2 = f1 + s1 * (t * u) - s1 * (r * (t * u / r)) - f2 := by grind
  rw [e3, e1, e2]
  have : f1 + (g * t - s2 * (t * v)) - s2 * (p * (t * u / r)) - f2 = -(s2 * (t * v)) - s2 * (p * (t * u / r)) := by omega
  rw [this]
  grind
end K35

namespace K35
open PySem PySem.Spec PyProof.Rows L2 Mi
variable {S T : Sto} {N : Nat}
/-- a claim: street, first, count, step, dart -/
structure Cl where
  (t f n s h : Int)
abbrev Cl.d (c : Cl) : D := .tup [.int c.t, .int c.f, .int c.n, .int c.s, .int c.h]
structure Cl.Ok (c : Cl) : Prop where
  t0 : 0 ≤ c.t
  t1 : c.t ≤ 99
  f0 : 0 ≤ c.f
  f1 : c.f ≤ 1000000000
  n0 : 1 ≤ c.n
  n1 : c.n ≤ 1000000000
  s0 : 1 ≤ c.s
  s1 : c.s ≤ 1000000
  h0 : 0 ≤ c.h
  h1 : c.h ≤ 1000000000000000000000000000000
theorem Cl.Ok.bd {c : Cl} (h : c.Ok) : Bd c.f 64 ∧ Bd c.n 64 ∧ Bd c.s 64 :=
  ⟨bd_lt (by have := h.f0; omega) (by have := h.f1; omega), bd_lt (by have := h.n0; omega) (by have := h.n1; omega), bd_lt (by have := h.s0; omega) (by have := h.s1; omega)⟩
def Cl.last (c : Cl) : Int := c.f + (c.n - 1) * c.s
def Cl.has (c : Cl) (x : Int) : Prop := c.f ≤ x ∧ x ≤ c.last ∧ c.s ∣ x - c.f
theorem last_eq {c : Cl} (h : c.Ok) : m_last_of [c.d] S = .ok (.int c.last) S := ens_eq (by
  obtain ⟨b1, b2, b3⟩ := h.bd
  simp [m_last_of, b_last_of, startE, Cl.last])
/-- the parts of a greatest common divisor of two positive numbers -/
theorem g2_parts {a b : Int} (ha : 1 ≤ a) (hb : 1 ≤ b) : ∃ p r, 1 ≤ g2 a b ∧ a = g2 a b * p ∧ b = g2 a b * r ∧ 1 ≤ p ∧ 1 ≤ r ∧ p ≤ a ∧ r ≤ b := by
  have hg := g2_pos (x := a) (show 0 < b by omega)
  obtain ⟨p, hp⟩ := g2_dvd_left a b
  obtain ⟨r, hr⟩ := g2_dvd_right a b
  have pos : ∀ {x c : Int}, 1 ≤ c → c = g2 a b * x → 1 ≤ x ∧ x ≤ c := fun {x c} hc e => by
    have h1 : 1 ≤ x := by
      by_cases h : 1 ≤ x
      · exact h
      · have := Int.mul_nonpos_of_nonneg_of_nonpos (Int.le_of_lt hg) (show x ≤ 0 by omega)
        omega
    have := Int.mul_le_mul_of_nonneg_right (show 1 ≤ g2 a b by omega) (show 0 ≤ x by omega)
    omega
  have h1 := pos ha hp
  have h2 := pos hb hr
  exact ⟨p, r, by omega, hp, hr, h1.1, h2.1, h1.2, h2.2⟩
/-- what two claims have in common, apart from their ends: none, or a start and a step -/
def Com (a b : Cl) (o : Option (Int × Int)) : Prop := match o with
  | none => ∀ x, a.s ∣ x - a.f → b.s ∣ x - b.f → False
  | some (st, l) => 1 ≤ l ∧ l ≤ 1000000000000 ∧ a.s ∣ st - a.f ∧ b.s ∣ st - b.f ∧ a.s ∣ l ∧ b.s ∣ l ∧ ∀ x, a.s ∣ x - a.f → b.s ∣ x - b.f → l ∣ x - st
end K35

namespace K35
open PySem PySem.Spec PyProof.Rows L2 Mi
variable {S T : Sto} {N : Nat}
theorem common_ok {a b : Cl} (ha : a.Ok) (hb : b.Ok) :
    Ens (m_common_start [a.d, b.d] S) fun r S' => S' = S ∧ ((r = .non ∧ Com a b none) ∨ ∃ st l, r = t2 st l ∧ Com a b (some (st, l)) ∧ Bd st 1000 ∧ Bd l 200) := by
  obtain ⟨a1, a2, a3⟩ := ha.bd
  obtain ⟨b1, b2, b3⟩ := hb.bd
  obtain ⟨p, r, hg, hp, hr, p1, r1, pa, rb⟩ := g2_parts ha.s0 hb.s0
  simp [m_common_start, b_common_start, startE]
  refine (part_ok ha.s0 hb.s0 (by have := ha.s1; omega) (by have := hb.s1; omega)).mono ?_
  rintro _ S1 ⟨u, e, e2, ⟨v, huv⟩, bu⟩
  subst e e2
  generalize hgg : g2 a.s b.s = g at *
  have bg : Bd g 64 := bd_lt (by omega) (by
    have := ha.s1
    have h3 : g * 1 ≤ g * p := Int.mul_le_mul_of_nonneg_left p1 (by omega)
    omega)
  have g0 : g ≠ 0 := by omega
  simp [modD_int, fdivD_int, g0]
  have ep : a.s.fdiv g = p := by rw [hp, Int.fdiv_eq_ediv_of_nonneg _ (by omega)]; exact Int.mul_ediv_cancel_left p g0
  have er : b.s.fdiv g = r := by rw [hr, Int.fdiv_eq_ediv_of_nonneg _ (by omega)]; exact Int.mul_ediv_cancel_left r g0
  rw [Int.fmod_eq_emod_of_nonneg _ (by omega), Int.fdiv_eq_ediv_of_nonneg _ (show 0 ≤ g by omega), ep, er]
  refine ⟨fun hne => ?_, fun h0 => ?_⟩
  · intro x ⟨k1, q1⟩ ⟨k2, q2⟩
    refine hne (Int.emod_eq_zero_of_dvd ⟨p * k1 - r * k2, ?_⟩)
    have e1 : g * (p * k1 - r * k2) = a.s * k1 - b.s * k2 := by rw [hp, hr]; grind
    omega
  · obtain ⟨t, ht⟩ := Int.dvd_of_emod_eq_zero h0
    have et : (b.f - a.f) / g = t := by rw [ht]; exact Int.mul_ediv_cancel_left t g0
    have bd : Bd (b.f - a.f) 64 := bd_lt (by have := ha.f1; have := hb.f0; omega) (by have := hb.f1; have := ha.f0; omega)
    have bt : Bd t 64 := ⟨bd.h.of_le (by rw [ht, Int.natAbs_mul]; exact Nat.le_mul_of_pos_left _ (by omega))⟩
    have bp : Bd p 64 := bd_lt (by omega) (by have := ha.s1; omega)
    have br : Bd r 64 := bd_lt (by omega) (by have := hb.s1; omega)
    have r0 : r ≠ 0 := by omega
    rw [et]
    have em : (t * u).fmod r = t * u % r := Int.fmod_eq_emod_of_nonneg _ (by omega)
    have m0 := Int.emod_nonneg (t * u) r0
    have m1 := Int.emod_lt_of_pos (t * u) (show 0 < r by omega)
    have bm : Bd (t * u % r) 64 := bd_lt (by omega) (by have := hb.s1; omega)
    have so := start_ok (f1 := a.f) (f2 := b.f) (show 0 < g by omega) hp hr huv ht
    simp [modD_int, r0, em]
    refine ⟨_, _, ⟨rfl, rfl⟩, ⟨?_, ?_, ?_, so, ?_, ?_, fun x d1 d2 => ?_⟩, Bd.up inferInstance (by decide), Bd.up inferInstance (by decide)⟩
    · have := Int.mul_le_mul p1 hb.s0 (by decide) (by omega)
      omega
    · have := Int.mul_le_mul (show p ≤ 1000000 by have := ha.s1; omega) hb.s1 (by have := hb.s0; omega) (by decide)
      omega
    · exact ⟨t * u % r, by omega⟩
    · exact ⟨r, by rw [hp, hr]; grind⟩
    · exact ⟨p, by grind⟩
    · refine lcm_dvd (show 0 < g by omega) huv hp ?_ ?_
      · obtain ⟨k, hk⟩ := d1
        exact ⟨k - t * u % r, by rw [Int.mul_sub]; omega⟩
      · obtain ⟨k, hk⟩ := d2
        obtain ⟨k2, hk2⟩ := so
        exact ⟨k - k2, by rw [Int.mul_sub]; omega⟩
end K35

namespace K35
open PySem PySem.Spec PyProof.Rows L2 Mi
variable {S T : Sto} {N : Nat}
/-- the least number that two claims hold, or none -/
def Least (a b : Cl) (o : Option Int) : Prop := match o with
  | none => ∀ x, a.has x → b.has x → False
  | some x => a.has x ∧ b.has x ∧ ∀ y, a.has y → b.has y → x ≤ y
theorem Least.uniq {a b : Cl} {o o' : Option Int} (h : Least a b o) (k : Least a b o') : o = o' := by
  cases o with
  | none => cases o' with
    | none => rfl
    | some y => exact (h y k.1 k.2.1).elim
  | some x => cases o' with
    | none => exact (k x h.1 h.2.1).elim
    | some y =>
      have h1 := h.2.2 y k.1 k.2.1
      have h2 := k.2.2 x h.1 h.2.1
      have : x = y := by omega
      rw [this]
theorem Least.comm {a b : Cl} {o : Option Int} (h : Least a b o) : Least b a o := by
  cases o with
  | none => exact fun x h1 h2 => h x h2 h1
  | some x => exact ⟨h.2.1, h.1, fun y h1 h2 => h.2.2 y h2 h1⟩
def oD : Option Int → D
  | none => .non
  | some x => .int x
theorem least_of {a b : Cl} {st l low x : Int} (h : Com a b (some (st, l))) (hl : low = if b.f > a.f then b.f else a.f) (hx : l ∣ x - st) (h1 : low ≤ x) (h2 : x < low + l) :
    Least a b (if x ≤ (if b.last < a.last then b.last else a.last) then some x else none) := by
  obtain ⟨l1, l2, d1, d2, e1, e2, all⟩ := h
  have da : a.s ∣ x - a.f := by
    have := Int.dvd_add (Int.dvd_trans e1 hx) d1
    rwa [show x - st + (st - a.f) = x - a.f by omega] at this
  have db : b.s ∣ x - b.f := by
    have := Int.dvd_add (Int.dvd_trans e2 hx) d2
    rwa [show x - st + (st - b.f) = x - b.f by omega] at this
  have low1 : a.f ≤ low ∧ b.f ≤ low := by rw [hl]; split <;> omega
  have least : ∀ y, a.has y → b.has y → x ≤ y := fun y ha hb => by
    have k := all y ha.2.2 hb.2.2
    have k2 : l ∣ y - x := by
      have := Int.dvd_sub k hx
      rwa [show y - st - (x - st) = y - x by omega] at this
    have hy : low ≤ y := by
      have := ha.1; have := hb.1
      rw [hl]; split <;> omega
    by_cases q : x ≤ y
    · exact q
    · exfalso
      have := Int.le_of_dvd (show 0 < x - y by omega) (by have := Int.dvd_neg.mpr k2; rwa [show -(y - x) = x - y by omega] at this)
      omega
  by_cases q : x ≤ (if b.last < a.last then b.last else a.last)
  · rw [if_pos q]
    have q2 : x ≤ a.last ∧ x ≤ b.last := by split at q <;> omega
    exact ⟨⟨by omega, q2.1, da⟩, ⟨by omega, q2.2, db⟩, least⟩
  · rw [if_neg q]
    intro y ha hb
    have := least y ha hb
    have := ha.2.1; have := hb.2.1
    split at q <;> omega
theorem leastc_ok {a b : Cl} (ha : a.Ok) (hb : b.Ok) : Ens (m_least_common [a.d, b.d] S) fun r S' => S' = S ∧ ∃ o, r = oD o ∧ Least a b o := by
  simp [m_least_common, b_least_common, startE]
  refine (common_ok ha hb).mono ?_
  rintro r S1 ⟨e, h⟩
  subst e
  rcases h with ⟨e, hc⟩ | ⟨st, l, e, hc, bst, bl⟩
  · subst e
    simp [D.isNon]
    exact ⟨none, rfl, fun x h1 h2 => hc x h1.2.2 h2.2.2⟩
  · subst e
    simp [D.isNon, sAug, fdivD_int]
    have l1 := hc.1
    have hl0 : l ≠ 0 := by omega
    generalize hlow : (if a.f < b.f then b.f else a.f) = low
    have blow : Bd low 64 := by rw [← hlow]; split <;> first | exact (hb.bd).1 | exact (ha.bd).1
    have ef : (st - low).fdiv l = (st - low) / l := Int.fdiv_eq_ediv_of_nonneg _ (by omega)
    have bq : Bd ((st - low) / l) 2000 := by
      have h1 : Bd (st - low) 1065 := Bd.up inferInstance (by decide)
      refine ⟨(h1.h.le (by decide : 1065 ≤ 2000)).of_le ?_⟩
      exact Int.natAbs_ediv_le_natAbs _ _
    obtain ⟨la, lb⟩ : (∀ S, m_last_of [a.d] S = .ok (.int a.last) S) ∧ ∀ S, m_last_of [b.d] S = .ok (.int b.last) S := ⟨fun S => last_eq ha, fun S => last_eq hb⟩
    have em : st + -((st - low) / l) * l = low + (st - low) % l := by
      have := Int.emod_def (st - low) l
      have e2 : -((st - low) / l) * l = -(l * ((st - low) / l)) := by grind
      omega
    have m0 := Int.emod_nonneg (st - low) hl0
    have m1 := Int.emod_lt_of_pos (st - low) (show 0 < l by omega)
    have lo := least_of (low := low) (x := low + (st - low) % l) hc hlow.symm ⟨-((st - low) / l), by rw [← em]; grind⟩ (by omega) (by omega)
    simp [fdivD_int, hl0, ef, addID, em, Ens_is (la _), Ens_is (lb _)]
    refine ⟨fun h => ⟨some _, rfl, ?_⟩, fun h => ⟨none, rfl, ?_⟩⟩
    · rw [if_pos h] at lo; exact lo
    · rw [if_neg (by omega)] at lo; exact lo
end K35

namespace K35
open PySem PySem.Spec PyProof.Rows L2 Mi
variable {S T : Sto} {N : Nat}
theorem cut14 {a b c d e : D} : Mi.cutD [a, b, c, d, e] (some 1) (some 4) = [b, c, d] := by
  simp [Mi.cutD, HT.sIx]
theorem lcommon_ok {a b : Cl} (ha : a.Ok) (hb : b.Ok) (ht : a.t = b.t) : Ens (m__law_common [a.d, b.d] S) fun r S' => S' = S ∧ ∃ o, r = oD o ∧ Least a b o := by
  obtain ⟨a1, a2, a3⟩ := ha.bd
  obtain ⟨b1, b2, b3⟩ := hb.bd
  obtain ⟨p, r, hg, hp, hr, p1, r1, pa, rb⟩ := g2_parts ha.s0 hb.s0
  simp [m__law_common, b__law_common, startE, ht, cut14]
  refine (euclid_ok ha.s0 hb.s0 (by have := ha.s1; omega) (by have := hb.s1; omega)).mono ?_
  rintro _ S1 ⟨u, e, e2, ⟨v, huv⟩, bu⟩
  subst e e2
  generalize hgg : g2 a.s b.s = g at *
  have bg : Bd g 64 := bd_lt (by omega) (by
    have := ha.s1
    have h3 : g * 1 ≤ g * p := Int.mul_le_mul_of_nonneg_left p1 (by omega)
    omega)
  have g0 : g ≠ 0 := by omega
  have ep : a.s.fdiv g = p := by rw [hp, Int.fdiv_eq_ediv_of_nonneg _ (by omega)]; exact Int.mul_ediv_cancel_left p g0
  have er : b.s.fdiv g = r := by rw [hr, Int.fdiv_eq_ediv_of_nonneg _ (by omega)]; exact Int.mul_ediv_cancel_left r g0
  have eg : (b.f - a.f).fmod g = (b.f - a.f) % g := Int.fmod_eq_emod_of_nonneg _ (by omega)
  simp [modD_int, g0, eg]
  refine ⟨fun hne => ⟨none, rfl, fun x h1 h2 => ?_⟩, fun h0 => ?_⟩
  · obtain ⟨k1, q1⟩ := h1.2.2
    obtain ⟨k2, q2⟩ := h2.2.2
    refine hne (Int.emod_eq_zero_of_dvd ⟨p * k1 - r * k2, ?_⟩)
    have e1 : g * (p * k1 - r * k2) = a.s * k1 - b.s * k2 := by rw [hp, hr]; grind
    omega
  · obtain ⟨t, ht2⟩ := Int.dvd_of_emod_eq_zero h0
    have et : (b.f - a.f).fdiv g = t := by rw [Int.fdiv_eq_ediv_of_nonneg _ (show 0 ≤ g by omega), ht2]; exact Int.mul_ediv_cancel_left t g0
    have bd : Bd (b.f - a.f) 64 := bd_lt (by have := ha.f1; have := hb.f0; omega) (by have := hb.f1; have := ha.f0; omega)
    have bt : Bd t 64 := ⟨bd.h.of_le (by rw [ht2, Int.natAbs_mul]; exact Nat.le_mul_of_pos_left _ (by omega))⟩
    have bp : Bd p 64 := bd_lt (by omega) (by have := ha.s1; omega)
    have br : Bd r 64 := bd_lt (by omega) (by have := hb.s1; omega)
    have r0 : r ≠ 0 := by omega
    have em : (t * u).fmod r = t * u % r := Int.fmod_eq_emod_of_nonneg _ (by omega)
    have m0 := Int.emod_nonneg (t * u) r0
    have m1 := Int.emod_lt_of_pos (t * u) (show 0 < r by omega)
    have bm : Bd (t * u % r) 64 := bd_lt (by omega) (by have := hb.s1; omega)
    have so := start_ok (f1 := a.f) (f2 := b.f) (show 0 < g by omega) hp hr huv ht2
    have l1 : 1 ≤ p * b.s := by
      have := Int.mul_le_mul p1 hb.s0 (by decide) (by omega)
      omega
    have l2 : p * b.s ≤ 1000000000000 := by
      have := Int.mul_le_mul (show p ≤ 1000000 by have := ha.s1; omega) hb.s1 (by have := hb.s0; omega) (by decide)
      omega
    have l0 : p * b.s ≠ 0 := by omega
    have com : Com a b (some (a.f + a.s * (t * u % r), p * b.s)) := by
      refine ⟨l1, l2, ⟨t * u % r, by omega⟩, so, ⟨r, by rw [hp, hr]; grind⟩, ⟨p, by grind⟩, fun x d1 d2 => ?_⟩
      refine lcm_dvd (show 0 < g by omega) huv hp ?_ ?_
      · obtain ⟨k, hk⟩ := d1
        exact ⟨k - t * u % r, by rw [Int.mul_sub]; omega⟩
      · obtain ⟨k, hk⟩ := d2
        obtain ⟨k2, hk2⟩ := so
        exact ⟨k - k2, by rw [Int.mul_sub]; omega⟩
    generalize hlow : (if a.f < b.f then b.f else a.f) = low
    have blow : Bd low 64 := by rw [← hlow]; split <;> first | exact (hb.bd).1 | exact (ha.bd).1
    have em2 : ∀ x : Int, x.fmod (p * b.s) = x % (p * b.s) := fun x => Int.fmod_eq_emod_of_nonneg _ (by omega)
    have cm : t * u % r * a.s = a.s * (t * u % r) := Int.mul_comm ..
    generalize hz : a.f + a.s * (t * u % r) - low = z
    have n0 := Int.emod_nonneg z l0
    have n1 := Int.emod_lt_of_pos z (show 0 < p * b.s by omega)
    have hx : p * b.s ∣ low + z % (p * b.s) - (a.f + a.s * (t * u % r)) := by
      refine ⟨-(z / (p * b.s)), ?_⟩
      have e1 := Int.emod_def z (p * b.s)
      have e2 : p * b.s * -(z / (p * b.s)) = -(p * b.s * (z / (p * b.s))) := by grind
      omega
    have lo := least_of (low := low) (x := low + z % (p * b.s)) com hlow.symm hx (by omega) (by omega)
    simp [et, er, ep, modD_int, fdivD_int, g0, r0, em, cm, hz, em2, l0]
    have ela : a.last = a.f + (a.n - 1) * a.s := rfl
    have elb : b.last = b.f + (b.n - 1) * b.s := rfl
    rw [ela, elb] at lo
    refine ⟨fun h => ⟨some _, rfl, ?_⟩, fun h => ⟨none, rfl, ?_⟩⟩
    · rw [if_pos h] at lo; exact lo
    · rw [if_neg (by omega)] at lo; exact lo
end K35

namespace K35
open PySem PySem.Spec PyProof.Rows L2 Mi
variable {S T : Sto} {N : Nat}
theorem least_ex {a b : Cl} (ha : a.Ok) (hb : b.Ok) : ∃ o, Least a b o := by
  obtain ⟨_, _, _, _, o, _, h⟩ := (leastc_ok (S := []) ha hb).eq
  exact ⟨o, h⟩
open Classical in
/-- the number that two claims have in common first, or none -/
noncomputable def com (a b : Cl) : Option Int := if h : a.t = b.t ∧ ∃ o, Least a b o then Classical.choose h.2 else none
theorem com_least {a b : Cl} (ha : a.Ok) (hb : b.Ok) (ht : a.t = b.t) : Least a b (com a b) := by
  have h : a.t = b.t ∧ ∃ o, Least a b o := ⟨ht, least_ex ha hb⟩
  unfold com
  rw [dif_pos h]
  exact Classical.choose_spec h.2
theorem com_none {a b : Cl} (ht : a.t ≠ b.t) : com a b = none := by
  unfold com
  rw [dif_neg (fun h => ht h.1)]
theorem com_comm {a b : Cl} (ha : a.Ok) (hb : b.Ok) : com a b = com b a := by
  by_cases ht : a.t = b.t
  · exact (com_least ha hb ht).uniq (com_least hb ha ht.symm).comm
  · rw [com_none ht, com_none (fun z => ht z.symm)]
theorem leastc_eq {a b : Cl} (ha : a.Ok) (hb : b.Ok) (ht : a.t = b.t) : m_least_common [a.d, b.d] S = .ok (oD (com a b)) S := by
  obtain ⟨r, S1, e, e1, o, e2, h⟩ := (leastc_ok (S := S) ha hb).eq
  rw [e, e1, e2, h.uniq (com_least ha hb ht)]
theorem clash_eq {a b : Cl} (ha : a.Ok) (hb : b.Ok) : m_clash_of [a.d, b.d] S = .ok (oD (com a b)) S := ens_eq (by
  by_cases ht : a.t = b.t
  · simp [m_clash_of, b_clash_of, startE, ht, Ens_is (leastc_eq ha hb ht)]
  · simp [m_clash_of, b_clash_of, startE, ht, com_none ht, oD])
theorem lcommon_eq {a b : Cl} (ha : a.Ok) (hb : b.Ok) : m__law_common [a.d, b.d] S = .ok (oD (com a b)) S := by
  by_cases ht : a.t = b.t
  · obtain ⟨r, S1, e, e1, o, e2, h⟩ := (lcommon_ok (S := S) ha hb ht).eq
    rw [e, e1, e2, h.uniq (com_least ha hb ht)]
  · refine ens_eq ?_
    simp [m__law_common, b__law_common, startE, ht, com_none ht, oD]
end K35

namespace K35
open PySem PySem.Spec PyProof.Rows L2 Mi
variable {S T : Sto} {N : Nat}
@[simp] theorem atI_4 {a b c d e : D} : L2.atI [a, b, c, d, e] 4 = some e := by simp [L2.atI, L2.ixN]
theorem between_eq {x l h : Int} : m_is_between [.int x, .int l, .int h] S = .ok (.bl (decide (l ≤ x ∧ x ≤ h))) S := ens_eq (by
  simp [m_is_between, b_is_between, startE, Ens_is is_int_eq]
  by_cases h1 : l ≤ x <;> by_cases h2 : x ≤ h <;> simp [h1, h2] <;> omega)
theorem isclaim_eq {c : Cl} (h : c.Ok) : m_is_claim_value [c.d] S = .ok (.bl true) S := ens_eq (by
  simp [m_is_claim_value, b_is_claim_value, startE, Ens_is is_tuple_eq, Ens_is between_eq, Ens_is is_from_eq, h.t0, h.t1, h.f0, h.f1, h.n0, h.n1, h.s0, h.s1, h.h0])
def bk (l : List Cl) : D := .tup (l.map Cl.d)
def Bk (l : List Cl) : Prop := (∀ c ∈ l, c.Ok) ∧ l.length ≤ 100
theorem getC {l : List Cl} {i : Nat} {d : D} (h : (l.map Cl.d)[i]? = some d) : ∃ c, l[i]? = some c ∧ c ∈ l ∧ d = c.d := by
  rw [List.getElem?_map] at h
  cases e : l[i]? with
  | none => rw [e] at h; cases h
  | some v => rw [e] at h; cases h; exact ⟨v, rfl, List.mem_of_getElem? e, rfl⟩
theorem isbook_eq {l : List Cl} (h : Bk l) : m_is_book_value [bk l] S = .ok (.bl true) S := ens_eq (by
  unfold bk
  simp [m_is_book_value, b_is_book_value, startE, isiD, D.tyn, askTys, isiB, wipeE]
  refine lc_inv (fun k acc S' => S' = S ∧ acc = List.replicate k (.bl true)) _ 0 _ _ ⟨rfl, rfl⟩ (fun _ _ _ _ _ _ => trivial) (fun i d' acc S' hk hd' hi => ?_) (fun acc S' hi => ?_)
  · obtain ⟨e1, e2⟩ := hi
    rw [show i - 0 = i from rfl] at hd'
    obtain ⟨c, hc, hm, e⟩ := getC hd'
    subst e
    have hlt : acc.length < 16777216 := by
      have := (List.getElem?_eq_some_iff.mp hc).1
      have := h.2
      rw [e2, List.length_replicate]; omega
    simp [hlt, Ens_is (isclaim_eq (h.1 c hm))]
    refine ⟨e1, ?_⟩
    rw [e2, List.replicate_succ']
  · obtain ⟨e1, e2⟩ := hi
    subst e1 e2
    simp [allD, bls_rep])
theorem needbook_eq {l : List Cl} (h : Bk l) : m_need_book [bk l] S = .ok .non S := ens_eq (by
  simp [m_need_book, b_need_book, startE, Ens_is (isbook_eq h)])
end K35

namespace K35
open PySem PySem.Spec PyProof.Rows L2 Mi
variable {S T : Sto} {N : Nat}
def hasB (c : Cl) (x : Int) : Bool := decide (c.f ≤ x) && decide (x ≤ c.last) && decide ((x - c.f).fmod c.s = 0)
theorem holds_eq {c : Cl} (h : c.Ok) {x : Int} : m_does_hold [c.d, .int x] S = .ok (.bl (hasB c x)) S := ens_eq (by
  have s0 : c.s ≠ 0 := by have := h.s0; omega
  simp [m_does_hold, b_does_hold, startE, Ens_is (last_eq h), modD_int, s0, hasB]
  by_cases h1 : c.f ≤ x <;> by_cases h2 : x ≤ c.last <;> simp [h1, h2] <;> omega)
theorem lholds_eq {c : Cl} (h : c.Ok) {x : Int} : m__law_holds [c.d, .int x] S = .ok (.bl (hasB c x)) S := ens_eq (by
  have s0 : c.s ≠ 0 := by have := h.s0; omega
  obtain ⟨b1, b2, b3⟩ := h.bd
  simp [m__law_holds, b__law_holds, startE, modD_int, s0, hasB, Cl.last]
  by_cases h1 : c.f ≤ x <;> by_cases h2 : x ≤ c.f + (c.n - 1) * c.s
  · simp [h1, h2, show 0 ≤ x - c.f by omega, show x - c.f ≤ (c.n - 1) * c.s by omega]
    omega
  · simp [h1, h2, show 0 ≤ x - c.f by omega, show ¬ x - c.f ≤ (c.n - 1) * c.s by omega]
  · simp [h1, h2, show ¬ 0 ≤ x - c.f by omega]
  · simp [h1, h2, show ¬ 0 ≤ x - c.f by omega])
/-- where the claims stand that hold a number of a street -/
def fnd (l : List Cl) (st x : Int) : List D := l.zipIdx.filterMap fun p => if p.1.t = st ∧ hasB p.1 x = true then some (.int (p.2 : Int)) else none
theorem fnd_take {l : List Cl} {st x : Int} {i : Nat} {c : Cl} (h : l[i]? = some c) : fnd (l.take (i + 1)) st x = fnd (l.take i) st x ++ (if c.t = st ∧ hasB c x = true then [.int (i : Int)] else []) := by
  have hi : i < l.length := (List.getElem?_eq_some_iff.mp h).1
  unfold fnd
  rw [List.take_succ, h, List.zipIdx_append, List.filterMap_append]
  congr 1
  have : (l.take i).length = i := by rw [List.length_take]; omega
  simp [this]
  split <;> simp_all
theorem fnd_len {l : List Cl} {st x : Int} : (fnd l st x).length ≤ l.length := by
  unfold fnd
  exact Nat.le_trans (List.length_filterMap_le _ _) (by simp)
theorem need_ok {d : D} : m_need_number [d, .bl true] S = .ok .non S := ens_eq (by
  simp [m_need_number, b_need_number, startE])
theorem find_eq {l : List Cl} (h : Bk l) {st x : Int} (h0 : 0 ≤ st) (h1 : st ≤ 99) (hx : 0 ≤ x) : m_find [bk l, .int st, .int x] S = .ok (.tup (fnd l st x)) S := ens_eq (by
  simp [m_find, b_find, startE, Ens_is (needbook_eq h), Ens_is between_eq, Ens_is is_from_eq, h0, h1, hx, Ens_is need_ok]
  simp [bk, wipeE]
  refine lc_inv (fun k acc S' => S' = S ∧ acc = fnd (l.take k) st x) _ 0 _ _ ⟨rfl, rfl⟩ (fun _ _ _ _ _ _ => trivial) (fun i d' acc S' hk hd' hi => ?_) (fun acc S' hi => ?_)
  · obtain ⟨e1, e2⟩ := hi
    rw [show i - 0 = i from rfl] at hd'
    obtain ⟨y, hy, e⟩ := enum_get hd'
    obtain ⟨c, hc, hm, e3⟩ := getC hy
    subst e e3 e1
    have hlt : acc.length < 16777216 := by
      have := h.2
      have := fnd_len (l := l.take i) (st := st) (x := x)
      rw [List.length_take] at this
      rw [e2]; omega
    rw [fnd_take hc, ← e2]
    by_cases q1 : c.t = st <;> cases q2 : hasB c x <;> simp [q1, q2, hlt, Ens_is (holds_eq (h.1 c hm))]
  · obtain ⟨e1, e2⟩ := hi
    subst e1 e2
    simp)
end K35

namespace K35
open PySem PySem.Spec PyProof.Rows L2 Mi
variable {S T : Sto} {N : Nat}
theorem atI_get {l : List D} {i : Nat} {d : D} (h : l[i]? = some d) : L2.atI l (i : Int) = some d := by
  have hi : i < l.length := (List.getElem?_eq_some_iff.mp h).1
  obtain ⟨e, h1, h2⟩ := atI_nat (l := l) (i := (i : Int)) (by omega) (by omega)
  rw [h1, ← h2, ← h]
  simp
theorem mapC {l : List Cl} {i : Nat} {c : Cl} (h : l[i]? = some c) : (l.map Cl.d)[i]? = some c.d := by
  rw [List.getElem?_map, h]; rfl
/-- what is told of a book -/
inductive Th where
  | clear
  | clash (a b x : Int)
deriving DecidableEq
def Th.d : Th → D
  | .clear => .tup [.str "clear"]
  | .clash a b x => .tup [.str "clash", .int a, .int b, .int x]
theorem st_clear : SeqAt.shaped (.str (PySem.Str.ofString "clear")) = true := by decide +kernel
theorem st_clash : SeqAt.shaped (.str (PySem.Str.ofString "clash")) = true := by decide +kernel
theorem Th.sh {t : Th} {n : Nat} : t.d.sh (n + 1) := by
  cases t
  · exact D.sh.tup fun d hd => by
      simp at hd
      subst hd
      exact sh_str st_clear
  · exact D.sh.tup fun d hd => by
      simp at hd
      rcases hd with e | e | e | e <;> subst e
      · exact sh_str st_clash
      · exact sh_int
      · exact sh_int
      · exact sh_int
theorem Th.pure {t : Th} : t.d.pure = true := by cases t <;> rfl
theorem Th.inj {t u : Th} (h : t.d = u.d) : t = u := by
  cases t <;> cases u <;> simp [Th.d] at h ⊢
  exact h
theorem Th.fit {t : Th} {n : Nat} : fit (n + 2) t.d = true := by
  cases t <;> simp [Th.d, K35.fit, st_clear, st_clash]
theorem sameI {n : Nat} {i j : Int} : m__law_same (n + 1) [.int i, .int j] S = .ok (.bl (decide (i = j))) S := ens_eq (by
  simp [m__law_same, b__law_same, startE, isiD, D.tyn, askTys, isiB, D.isNon])
theorem eqD_ones {l : List D} (h : ∀ d ∈ l, d.sh 60) : eqD S (.lst l) (.lst []) = some (.bl (decide (l = []))) := eqD_nil rfl h
theorem sameTh {t u : Th} : m__law_same 5 [t.d, u.d] S = .ok (.bl (decide (t = u))) S := ens_eq (by
  have hc : m__law_same 4 [.str "clash", .str "clash"] S = .ok (.bl true) S := same_ok 4 _ (by simp [K35.fit, st_clash]) S
  have hc2 : m__law_same 4 [.str "clear", .str "clear"] S = .ok (.bl true) S := same_ok 4 _ (by simp [K35.fit, st_clear]) S
  have on : ∀ l : List D, (∀ d ∈ l, d = .int 1) → eqD S (.lst l) (.lst []) = some (.bl (decide (l = []))) := fun l hl => eqD_nil rfl fun d hd => by rw [hl d hd]; exact sh_int
  cases t with
  | clear =>
    cases u with
    | clear => simp [Th.d, show m__law_same 5 = fnP N__law_same.length (b__law_same (m__law_same 4)) from rfl, b__law_same, startE, isiD, D.tyn, askTys, isiB, D.isNon, zipD, Ens_lc_cons, Ens_lc_nil, wipeE, Ens_is hc2, on]
    | clash a b x => simp [Th.d, m__law_same, b__law_same, startE, isiD, D.tyn, askTys, isiB, D.isNon]
  | clash a b x =>
    cases u with
    | clear => simp [Th.d, m__law_same, b__law_same, startE, isiD, D.tyn, askTys, isiB, D.isNon]
    | clash a' b' x' =>
      by_cases e1 : a = a' <;> by_cases e2 : b = b' <;> by_cases e3 : x = x' <;>
      simp [Th.d, show m__law_same 5 = fnP N__law_same.length (b__law_same (m__law_same 4)) from rfl, b__law_same, startE, isiD, D.tyn, askTys, isiB, D.isNon, zipD, Ens_lc_cons, Ens_lc_nil, wipeE, Ens_is hc, on, Ens_is sameI, e1, e2, e3])
/-- no two claims of a book clash -/
def Clear (l : List Cl) : Prop := ∀ (i j : Nat) (c e : Cl), i < j → l[i]? = some c → l[j]? = some e → com c e = none
def Clash (l : List Cl) (a b x : Int) : Prop := ∃ (i j : Nat) (c e : Cl), a = i ∧ b = j ∧ i < j ∧ l[i]? = some c ∧ l[j]? = some e ∧ com c e = some x
def Jud (l : List Cl) : Th → Prop
  | .clear => Clear l
  | .clash a b x => Clash l a b x
theorem isnD_oD {o : Option Int} : isnD S (oD o) .non = some (.bl o.isSome) := by
  cases o <;> rfl
theorem judge_ens {l : List Cl} (h : Bk l) : Ens (m_judge_book [bk l] S) fun a S' => S' = S ∧ ∃ t : Th, a = t.d ∧ Jud l t := by
  have hl := h.2
  simp [m_judge_book, b_judge_book, startE, Ens_is (needbook_eq h)]
  simp [bk]
  refine ⟨by omega, ?_⟩
  refine for_inv (fun k env S' => S' = S ∧ (∃ x1 x2 x3, env = [some (bk l), x1, x2, x3]) ∧ ∀ (i j : Nat) (c e : Cl), i < j → j < k → l[i]? = some c → l[j]? = some e → com c e = none) _ 0 _ _ ⟨rfl, ⟨none, none, none, rfl⟩, fun i j c e h1 h2 => by omega⟩ (fun _ _ _ _ _ _ => trivial) (fun j d' env S' hk hd' hi => ?_) (fun env S' hi => ?_)
  · obtain ⟨e1, ⟨x1, x2, x3, e2⟩, hn⟩ := hi
    rw [show j - 0 = j from rfl] at hd'
    obtain ⟨hj, e3⟩ := rng_get hd'
    subst e1 e2 e3
    have hej : l[j]? = some l[j] := List.getElem?_eq_getElem hj
    simp
    refine ⟨by omega, ?_⟩
    refine for_inv (fun k env S2 => S2 = S' ∧ (∃ x2 x3, env = [some (bk l), some (.int (j : Int)), x2, x3]) ∧ ∀ (i : Nat) (c : Cl), i < k → l[i]? = some c → com c l[j] = none) _ 0 _ _ ⟨rfl, ⟨x2, x3, rfl⟩, fun i c h1 => by omega⟩ (fun _ _ _ _ _ _ => trivial) (fun i d' env S' hk hd' hi => ?_) (fun env S' hi => ?_)
    · obtain ⟨e1, ⟨x2, x3, e2⟩, hm⟩ := hi
      rw [show i - 0 = i from rfl] at hd'
      obtain ⟨hij, e3⟩ := rng_get hd'
      subst e1 e2 e3
      have hei : l[i]? = some l[i] := List.getElem?_eq_getElem (by omega)
      have oi := h.1 _ (List.mem_of_getElem? hei)
      have oj := h.1 _ (List.mem_of_getElem? hej)
      simp [bk, atI_get (mapC hei), atI_get (mapC hej), Ens_is (clash_eq oi oj), isnD_oD]
      refine ⟨fun hs => ?_, fun hs i' c hlt hc => ?_⟩
      · cases hx : com l[i] l[j] with
        | none => rw [hx] at hs; cases hs
        | some x =>
          exact ⟨.clash i j x, by simp [Th.d, oD], i, j, _, _, rfl, rfl, hij, hei, hej, hx⟩
      · by_cases q : i' = i
        · subst q
          rw [hei] at hc
          cases hc
          cases hx : com l[i'] l[j] with
          | none => rfl
          | some x => rw [hx] at hs; cases hs
        · exact hm i' c (by omega) hc
    · obtain ⟨e1, ⟨x2, x3, e2⟩, hm⟩ := hi
      subst e1 e2
      rw [rangeD_length] at hm
      refine ⟨rfl, ⟨_, _, _, rfl⟩, fun i' j' c e h1 h2 h3 h4 => ?_⟩
      by_cases q : j' = j
      · subst q
        rw [hej] at h4
        cases h4
        exact hm i' c (by omega) h3
      · exact hn i' j' c e h1 (by omega) h3 h4
  · obtain ⟨e1, ⟨x1, x2, x3, e2⟩, hn⟩ := hi
    subst e1 e2
    rw [rangeD_length] at hn
    simp
    refine ⟨.clear, rfl, fun i j c e h1 h2 h3 => hn i j c e h1 ?_ h2 h3⟩
    have := (List.getElem?_eq_some_iff.mp h3).1
    omega
end K35

namespace K35
open PySem PySem.Spec PyProof.Rows L2 Mi
variable {S T : Sto} {N : Nat}
theorem clear_iff {l : List Cl} : Clear l ↔ ∀ a b x, ¬ Clash l a b x := by
  constructor
  · rintro h a b x ⟨i, j, c, e, _, _, h1, h2, h3, h4⟩
    rw [h i j c e h1 h2 h3] at h4
    cases h4
  · intro h i j c e h1 h2 h3
    cases hx : com c e with
    | none => rfl
    | some x => exact absurd ⟨i, j, c, e, rfl, rfl, h1, h2, h3, hx⟩ (h i j x)
theorem eqD_Th {t u : Th} : eqD S t.d u.d = some (.bl (decide (t = u))) := by
  classical
  rw [eqD_pure (by cases t <;> rfl) (by cases u <;> rfl) (Th.sh.up (n := 1) (by decide)) (Th.sh.up (n := 1) (by decide)) Th.pure Th.pure]
  have : t.d = u.d ↔ t = u := ⟨Th.inj, fun h => by rw [h]⟩
  simp [this]
theorem inD_one {x : Str} : inD S (.str x) (.tup [.str x]) = some (.bl true) := by
  simp [inD, inB, der, D.flat, PyData.eqv, D.py]
@[simp] theorem cut1 {a b c e : D} : Mi.cutD [a, b, c, e] (some 1) none = [b, c, e] := by rfl
open Classical in
theorem bholds_eq {l : List Cl} (h : Bk l) (t : Th) : m_book_holds [bk l, t.d] S = .ok (.bl (decide (Jud l t))) S := ens_eq (by
  have hl := h.2
  cases t with
  | clear =>
    simp [m_book_holds, b_book_holds, startE, Ens_is (needbook_eq h), Th.d, Ens_is is_tuple_eq, m_is_word, b_is_word, isiD, D.tyn, askTys, isiB, inD_one]
    refine (judge_ens h).mono ?_
    rintro _ S1 ⟨e, t, e1, hj⟩
    subst e e1
    rw [show D.tup [D.str (Str.ofString "clear")] = Th.d .clear from rfl, eqD_Th]
    simp
    cases t with
    | clear => exact ⟨fun _ => hj, fun _ => rfl⟩
    | clash a b x => exact ⟨fun z => (by cases z), fun z => absurd hj (clear_iff.mp z a b x)⟩
  | clash a b x =>
    have eN : ∀ o, eqD S (oD o) (.int x) = some (.bl (decide (o = some x))) := fun o => by
      cases o with
      | none => simp [oD, eqD, der, D.py, SeqAt.shaped, PyData.canLay0, PyData.depth, PyData.eqv]
      | some y => simp [oD]
    simp [m_book_holds, b_book_holds, startE, Ens_is (needbook_eq h), Th.d, Ens_is is_tuple_eq, m_is_word, b_is_word, isiD, D.tyn, askTys, isiB, inD_one, Ens_lc_cons, Ens_lc_nil, wipeE, Ens_is is_int_eq, allD, blsD]
    simp [bk]
    refine ⟨fun h1 => ⟨fun h2 => ⟨fun h3 => ?_, fun h3 => ?_⟩, fun h2 => ?_⟩, fun h1 => ?_⟩
    · have ha : l[a.toNat]? = some l[a.toNat] := List.getElem?_eq_getElem (by omega)
      have hb : l[b.toNat]? = some l[b.toNat] := List.getElem?_eq_getElem (by omega)
      have ga := atI_get (mapC ha)
      have gb := atI_get (mapC hb)
      rw [show ((a.toNat : Nat) : Int) = a by omega] at ga
      rw [show ((b.toNat : Nat) : Int) = b by omega] at gb
      simp [ga, gb, Ens_is (clash_eq (h.1 _ (List.mem_of_getElem? ha)) (h.1 _ (List.mem_of_getElem? hb))), eN]
      constructor
      · intro e
        exact ⟨a.toNat, b.toNat, _, _, by omega, by omega, by omega, ha, hb, e⟩
      · rintro ⟨i, j, c, e, e1, e2, h4, h5, h6, h7⟩
        subst e1 e2
        simp at ha hb ⊢
        rw [List.getElem?_eq_getElem (by omega)] at h5 h6
        cases h5; cases h6
        exact h7
    · rintro ⟨i, j, c, e, e1, e2, h4, h5, h6, h7⟩
      have := (List.getElem?_eq_some_iff.mp h6).1
      omega
    · rintro ⟨i, j, c, e, e1, e2, h4, h5, h6, h7⟩
      omega
    · rintro ⟨i, j, c, e, e1, e2, h4, h5, h6, h7⟩
      omega)
open Classical in
/-- the papers: the clashes of a book -/
def Pap (l : List Cl) (L : List Th) : Prop := ∀ t, t ∈ L ↔ t ≠ .clear ∧ Jud l t
theorem Pap.nil {l : List Cl} {L : List Th} (h : Pap l L) : L = [] ↔ Clear l := by
  rw [clear_iff]
  constructor
  · intro e a b x hc
    have := (h (.clash a b x)).mpr ⟨by simp, hc⟩
    rw [e] at this
    cases this
  · intro hn
    cases L with
    | nil => rfl
    | cons t r =>
      have := (h t).mp List.mem_cons_self
      cases t with
      | clear => exact absurd rfl this.1
      | clash a b x => exact absurd this.2 (hn a b x)
/-- a told value as a paper -/
def thOf : D → Option Th
  | .tup [.str x] => if x = PySem.Str.ofString "clear" then some .clear else none
  | .tup [.str x, .int a, .int b, .int n] => if x = PySem.Str.ofString "clash" then some (.clash a b n) else none
  | _ => none
theorem thOf_d {t : Th} : thOf t.d = some t := by cases t <;> simp [Th.d, thOf]
theorem thOf_eq {d : D} {t : Th} (h : thOf d = some t) : d = t.d := by
  unfold thOf at h
  split at h
  · split at h
    · rename_i e; cases h; rw [e]; rfl
    · cases h
  · split at h
    · rename_i e; cases h; rw [e]; rfl
    · cases h
  · cases h
theorem isint_od {d : D} (h : od d = true) : m_is_int [d] S = .ok (.bl (isI d)) S := ens_eq (by
  cases d <;> first | (cases h; done) | simp [m_is_int, b_is_int, startE, od_isi, isiB, tn, askTys, isI, h])
theorem istup_od {d : D} {j : Int} (h : od d = true) : m_is_tuple [d, .int j] S = .ok (.bl (match d with | .tup l => decide ((l.length : Int) = j) | _ => false)) S := ens_eq (by
  cases d <;> first | (cases h; done) | simp [m_is_tuple, b_is_tuple, startE, od_isi, isiB, tn, askTys, h])
theorem btw_od {d : D} {lo hi : Int} (h : od d = true) : m_is_between [d, .int lo, .int hi] S = .ok (.bl (btw lo hi d)) S := ens_eq (by
  cases d with
  | int x =>
    simp [m_is_between, b_is_between, startE, Ens_is (isint_od h), isI, btw]
    by_cases h1 : lo ≤ x <;> by_cases h2 : x ≤ hi <;> simp [h1, h2] <;> omega
  | _ => first | (cases h; done) | simp [m_is_between, b_is_between, startE, Ens_is (isint_od h), isI, btw])
theorem frm_od {d : D} {lo : Int} (h : od d = true) : m_is_from [d, .int lo] S = .ok (.bl (frm lo d)) S := ens_eq (by
  cases d with
  | int x => simp [m_is_from, b_is_from, startE, Ens_is (isint_od h), isI, frm]
  | _ => first | (cases h; done) | simp [m_is_from, b_is_from, startE, Ens_is (isint_od h), isI, frm])
def isW (w : Str) : D → Bool
  | .str x => decide (x = w)
  | _ => false
theorem inD_str {x w : Str} : inD S (.str x) (.tup [.str w]) = some (.bl (decide (x = w))) := by
  by_cases e : x = w
  · subst e; simp [inD, inB, der, D.flat, PyData.eqv, D.py]
  · simp [inD, inB, der, D.flat, PyData.eqv, D.py, e]
    exact fun z => e z.symm
theorem isword_od {d : D} {w : Str} (h : od d = true) : m_is_word [d, .tup [.str w]] S = .ok (.bl (isW w d)) S := ens_eq (by
  cases d with
  | str x => simp [m_is_word, b_is_word, startE, od_isi h, isiB, tn, askTys, isW, inD_str]
  | _ => first | (cases h; done) | simp [m_is_word, b_is_word, startE, od_isi h, isiB, tn, askTys, isW])
theorem lisint_od {d : D} (h : od d = true) : m__law_is_integer [d] S = .ok (.bl (isI d)) S := ens_eq (by
  cases d <;> first | (cases h; done) | simp [m__law_is_integer, b__law_is_integer, startE, od_isi, isiB, tn, askTys, isI, h])
theorem allint {l : List D} {env : En} (hl : ∀ d ∈ l, od d = true) (hlen : l.length ≤ 1000) {P : List D → Sto → Prop} (hP : P (l.map fun d => .bl (isI d)) S) (he : env.length = 6) :
    Ens (lcD (gN 2) bYes (mCall 1 m_is_int (aCons (mVar 2) aNil)) (gdSeq (.tup l) l) env l S []) P := by
  match env, he with
  | [e0, e1, e2, e3, e4, e5], _ =>
  refine lc_inv (fun k acc S' => S' = S ∧ acc = (l.take k).map fun d => .bl (isI d)) _ 0 _ _ ⟨rfl, rfl⟩ (fun _ _ _ _ _ _ => trivial) (fun i d' acc S' hk hd' hi => ?_) (fun acc S' hi => ?_)
  · obtain ⟨e1, e2⟩ := hi
    rw [show i - 0 = i from rfl] at hd'
    have hm := hl d' (List.mem_of_getElem? hd')
    have hi2 := (List.getElem?_eq_some_iff.mp hd').1
    subst e1
    simp [Ens_is (isint_od hm)]
    refine ⟨by rw [e2]; simp; omega, ?_⟩
    rw [e2]
    simp only [List.map_take]
    rw [List.take_succ, List.getElem?_map, hd']
    rfl
  · obtain ⟨e1, e2⟩ := hi
    subst e1 e2
    simpa using hP
theorem bls_map {l : List D} : blsD (l.map fun d => D.bl (isI d)) = some (l.map isI) := by
  induction l with
  | nil => rfl
  | cons a l ih => simp [blsD, ih]
open Classical in
theorem bholds_od {l : List Cl} (h : Bk l) {d : D} (ho : od d = true) : m_book_holds [bk l, d] S = .ok (.bl (decide (∃ t, thOf d = some t ∧ Jud l t))) S := by
  cases ht : thOf d with
  | some t =>
    have := thOf_eq ht
    subst this
    rw [bholds_eq h t]
    simp
  | none =>
    simp
    refine ens_eq ?_
    cases d with
    | tup m =>
      have hm := (od_tup.mp ho).1
      match m, hm, ho, ht with
      | [], hm, ho, ht => simp [m_book_holds, b_book_holds, startE, Ens_is (needbook_eq h), Ens_is (istup_od ho)]
      | [x], hm, ho, ht =>
        have hx : isW (PySem.Str.ofString "clear") x = false := by
          cases x with
          | str y =>
            unfold isW
            refine decide_eq_false fun z => ?_
            simp [thOf, z] at ht
          | _ => rfl
        simp [m_book_holds, b_book_holds, startE, Ens_is (needbook_eq h), Ens_is (istup_od ho), Ens_is (isword_od (hm x (by simp))), hx]
      | [x, y], hm, ho, ht => simp [m_book_holds, b_book_holds, startE, Ens_is (needbook_eq h), Ens_is (istup_od ho)]
      | [x, y, z], hm, ho, ht => simp [m_book_holds, b_book_holds, startE, Ens_is (needbook_eq h), Ens_is (istup_od ho)]
      | [x, y, z, w], hm, ho, ht =>
        cases hx : isW (PySem.Str.ofString "clash") x with
        | false => simp [m_book_holds, b_book_holds, startE, Ens_is (needbook_eq h), Ens_is (istup_od ho), Ens_is (isword_od (hm x (by simp))), hx]
        | true =>
          have hi : (isI y && isI z && isI w) = false := by
            cases x with
            | str q =>
              have := of_decide_eq_true hx
              cases y <;> cases z <;> cases w <;> first | rfl | (simp [thOf, this] at ht; done)
            | _ => cases hx
          simp [m_book_holds, b_book_holds, startE, Ens_is (needbook_eq h), Ens_is (istup_od ho), Ens_is (isword_od (hm x (by simp))), hx]
          refine allint (fun d hd => hm d (List.mem_cons_of_mem _ hd)) (by simp) ?_ rfl
          rw [show allD S [.lst ([y, z, w].map fun d => D.bl (isI d))] = some (.bl ([y, z, w].map isI |>.all id)) by simp only [allD, lstD_lst, Option.bind, bls_map]; rfl]
          have : ([y, z, w].map isI |>.all id) = false := by
            simp
            simpa [Bool.and_assoc] using hi
          rw [this]
          simp
      | x :: y :: z :: w :: v :: r, hm, ho, ht =>
        have : ¬ ((r.length : Int) + 1 + 1 + 1 + 1 + 1 = 4) := by omega
        have : ¬ ((r.length : Int) + 1 + 1 + 1 + 1 + 1 = 1) := by omega
        simp [m_book_holds, b_book_holds, startE, Ens_is (needbook_eq h), Ens_is (istup_od ho)]
        constructor
        · intro z; omega
        · intro z z'; omega
    | _ => first | (cases ho; done) | simp [m_book_holds, b_book_holds, startE, Ens_is (needbook_eq h), Ens_is (istup_od ho)]
/-! ### _law_same with an odd told value -/
theorem eqD_str2 {x y : Str} (hx : SeqAt.shaped (.str x) = true) (hy : SeqAt.shaped (.str y) = true) : eqD S (.str x) (.str y) = some (.bl (decide (x = y))) := by
  have : (x == y) = decide (x = y) := by by_cases e : x = y <;> simp [e]
  simp [eqD, der, D.py, hx, hy, PyData.eqv, this]
def isN (y : Int) : D → Bool
  | .int x => decide (x = y)
  | _ => false
theorem same_int {n : Nat} {d : D} {y : Int} (h : od d = true) : m__law_same (n + 1) [d, .int y] S = .ok (.bl (isN y d)) S := ens_eq (by
  have e : m__law_same (n + 1) = fnP N__law_same.length (b__law_same (m__law_same n)) := rfl
  cases d with
  | str x => simp [e, b__law_same, startE, isiD, D.tyn, askTys, isiB, D.isNon, isN]
  | _ => first | (cases h; done) | simp [e, b__law_same, startE, isiD, D.tyn, askTys, isiB, D.isNon, isN])
theorem same_str {n : Nat} {d : D} {y : Str} (h : od d = true) (hy : SeqAt.shaped (.str y) = true) : m__law_same (n + 1) [d, .str y] S = .ok (.bl (isW y d)) S := ens_eq (by
  have e : m__law_same (n + 1) = fnP N__law_same.length (b__law_same (m__law_same n)) := rfl
  cases d with
  | str x => simp [e, b__law_same, startE, isiD, D.tyn, askTys, isiB, D.isNon, eqD_str2 h hy, isW]
  | _ => first | (cases h; done) | simp [e, b__law_same, startE, isiD, D.tyn, askTys, isiB, D.isNon, isW])
theorem same_tup {n : Nat} {l m : List D} {bs : Nat → Bool} (hl : l.length = m.length) (h1 : l.length ≤ 1000) (hb : ∀ (i : Nat) (x y : D), l[i]? = some x → m[i]? = some y → ∀ S, m__law_same n [x, y] S = .ok (.bl (bs i)) S) :
    m__law_same (n + 1) [.tup l, .tup m] S = .ok (.bl (decide (∀ i < l.length, bs i = true))) S := ens_eq (by
  have e : m__law_same (n + 1) = fnP N__law_same.length (b__law_same (m__law_same n)) := rfl
  simp [e, b__law_same, startE, isiD, D.tyn, askTys, isiB, hl, wipeE]
  refine lc_inv (fun k acc S' => S' = S ∧ (∀ d ∈ acc, d = .int 1) ∧ acc.length ≤ k ∧ (acc = [] ↔ ∀ i < k, bs i = true)) _ 0 _ _ ⟨rfl, by simp, by simp, by simp⟩ (fun _ _ _ _ _ _ => trivial) (fun i d' acc S' hk hd' hi => ?_) (fun acc S' hi => ?_)
  · obtain ⟨e1, h2, hA, hi⟩ := hi
    rw [show i - 0 = i from rfl] at hd'
    obtain ⟨x, y, hx, hy, e3⟩ := zipD_get' hd'
    have hi2 := (List.getElem?_eq_some_iff.mp hx).1
    subst e1 e3
    have hs : (∀ j < i + 1, bs j = true) ↔ (∀ j < i, bs j = true) ∧ bs i = true := by
      constructor
      · exact fun z => ⟨fun j hj => z j (by omega), z i (by omega)⟩
      · rintro ⟨z1, z2⟩ j hj
        by_cases q : j = i
        · rw [q]; exact z2
        · exact z1 j (by omega)
    rw [hs]
    cases hbi : bs i with
    | true =>
      simp [Ens_is (hb i x y hx hy _), hbi]
      exact ⟨h2, by omega, hi⟩
    | false =>
      simp [Ens_is (hb i x y hx hy _), hbi]
      refine ⟨by omega, fun d hd => ?_, by omega⟩
      rcases hd with q | q
      · exact h2 d q
      · exact q
  · obtain ⟨e1, h2, hA, hi⟩ := hi
    subst e1
    have hz : 0 + (zipD l m).length = m.length := by unfold zipD; simp [hl]
    rw [hz] at hi
    simp [hi])
theorem same_od {d : D} {t : Th} (h : od d = true) : m__law_same 5 [d, t.d] S = .ok (.bl (decide (thOf d = some t))) S := by
  cases ht : thOf d with
  | some u =>
    have := thOf_eq ht
    subst this
    rw [sameTh]
    simp
  | none =>
    simp
    refine ens_eq ?_
    have e5 : m__law_same 5 = fnP N__law_same.length (b__law_same (m__law_same 4)) := rfl
    cases d with
    | tup m =>
      have hm := (od_tup.mp h).1
      cases t with
      | clear =>
        match m, hm, h, ht with
        | [], hm, h, ht => simp [Th.d, e5, b__law_same, startE, isiD, D.tyn, askTys, isiB, D.isNon]
        | [x], hm, h, ht =>
          have hx : isW (PySem.Str.ofString "clear") x = false := by
            cases x with
            | str y =>
              unfold isW
              refine decide_eq_false fun z => ?_
              simp [thOf, z] at ht
            | _ => rfl
          simp [Th.d, e5, b__law_same, startE, isiD, D.tyn, askTys, isiB, D.isNon, zipD, Ens_lc_cons, Ens_lc_nil, wipeE, Ens_is (same_str (hm x (by simp)) st_clear), hx]
        | x :: y :: r, hm, h, ht =>
          have : ¬ ((r.length : Int) + 1 + 1 = 1) := by omega
          simp [Th.d, e5, b__law_same, startE, isiD, D.tyn, askTys, isiB, D.isNon, this]
      | clash a b n =>
        match m, hm, h, ht with
        | [], hm, h, ht => simp [Th.d, e5, b__law_same, startE, isiD, D.tyn, askTys, isiB, D.isNon]
        | [x], hm, h, ht => simp [Th.d, e5, b__law_same, startE, isiD, D.tyn, askTys, isiB, D.isNon]
        | [x, y], hm, h, ht => simp [Th.d, e5, b__law_same, startE, isiD, D.tyn, askTys, isiB, D.isNon]
        | [x, y, z], hm, h, ht => simp [Th.d, e5, b__law_same, startE, isiD, D.tyn, askTys, isiB, D.isNon]
        | [x, y, z, w], hm, h, ht =>
          have hno : ¬ ∀ i < 4, (fun i => match i with | 0 => isW (PySem.Str.ofString "clash") x | 1 => isN a y | 2 => isN b z | _ => isN n w) i = true := fun q => by
            have q0 := q 0 (by decide)
            have q1 := q 1 (by decide)
            have q2 := q 2 (by decide)
            have q3 := q 3 (by decide)
            simp only at q0 q1 q2 q3
            cases x <;> first | (cases q0; done) | skip
            cases y <;> first | (cases q1; done) | skip
            cases z <;> first | (cases q2; done) | skip
            cases w <;> first | (cases q3; done) | skip
            simp [thOf, of_decide_eq_true q0] at ht
          have := same_tup (n := 4) (S := S) (l := [x, y, z, w]) (m := [.str "clash", .int a, .int b, .int n]) (bs := fun i => match i with | 0 => isW (PySem.Str.ofString "clash") x | 1 => isN a y | 2 => isN b z | _ => isN n w) rfl (by simp) (fun i p q hp hq S => by
            rcases i with _ | _ | _ | _ | i
            · simp at hp hq; subst hp hq; exact same_str (hm _ (by simp)) st_clash
            · simp at hp hq; subst hp hq; exact same_int (hm _ (by simp))
            · simp at hp hq; subst hp hq; exact same_int (hm _ (by simp))
            · simp at hp hq; subst hp hq; exact same_int (hm _ (by simp))
            · simp at hp)
          rw [show Th.d (.clash a b n) = .tup [.str "clash", .int a, .int b, .int n] from rfl, Ens_is this]
          refine ⟨?_, rfl⟩
          congr 1
          exact decide_eq_false hno
        | x :: y :: z :: w :: v :: r, hm, h, ht =>
          have : ¬ ((r.length : Int) + 1 + 1 + 1 + 1 + 1 = 4) := by omega
          simp [Th.d, e5, b__law_same, startE, isiD, D.tyn, askTys, isiB, D.isNon, this]
          first | done | omega | (intro z; omega)
    | _ => first | (cases h; done) | (cases t <;> simp [Th.d, e5, b__law_same, startE, isiD, D.tyn, askTys, isiB, D.isNon])
end K35

namespace K35
open PySem PySem.Spec PyProof.Rows L2 Mi
variable {S T : Sto} {N : Nat}
theorem dk_at (h : DkP N T S) {k : Nat} {o : O} (hk : T[k]? = some o) : S[k + 2]? = some o := by
  obtain ⟨c, m, n, e, _⟩ := h
  subst e
  simpa [deckS] using hk
theorem dk_len (h : DkP N T S) : S.length = T.length + 2 := by
  obtain ⟨c, m, n, e, _⟩ := h
  subst e
  simp [deckS]
theorem dk_push (h : DkP N T S) {o : O} : DkP N (T ++ [o]) (S ++ [o]) := by
  obtain ⟨c, m, n, e, h⟩ := h
  subst e
  exact ⟨c, m, n, rfl, h⟩
theorem dk_setT (h : DkP N T S) {k : Nat} {o : O} : DkP N (T.set k o) (S.set (k + 2) o) := by
  obtain ⟨c, m, n, e, h⟩ := h
  subst e
  exact ⟨c, m, n, rfl, h⟩
theorem dk_gc {M : Nat} {E S' : Sto} (h : DkP N T S) (h' : DkP M (T ++ E) S') : gcOk S S' ∧ DkP M T (S'.take S.length) := by
  have los : ∀ (n : Nat) (c : List Int), D.los n (c.map D.int) := fun n c => by
    induction c with
    | nil => trivial
    | cons a c ih => exact ⟨trivial, ih⟩
  have hl := dk_len h
  obtain ⟨c, m, n, e, _⟩ := h
  obtain ⟨c', m', n', e', h'⟩ := h'
  subst e e'
  refine ⟨⟨by simp [deckS], fun i hi => ?_⟩, c', m', n', ?_, h'⟩
  · rcases i with _ | _ | i
    · exact .inr ⟨_, rfl, los _ _⟩
    · exact .inr ⟨_, rfl, by simp [O.lo, kvBelow, D.lo, deckS]⟩
    · refine .inl ?_
      have : i < T.length := by rw [hl] at hi; omega
      simp [deckS, List.getElem?_append_left this]
  · rw [hl]
    simp [deckS]
theorem ens_gcF {r : R D} {P : D → Sto → Prop} (h : Ens r fun d S' => ∃ (k : Nat) (l : List D), d = .loc k ∧ S'[k]? = some (.lst l) ∧ S.length ≤ k ∧ gcOk S S' ∧ D.los S.length l ∧ P (.lst l) (S'.take S.length)) : Ens (gcF S r) P := by
  cases r with
  | ok d S' =>
    obtain ⟨k, l, e, h1, h2, h3, h4, h5⟩ := h
    subst e
    unfold gcF
    simp only [h1]
    rw [if_pos ⟨h2, h3, h4⟩]
    exact h5
  | exc C fs S' => exact h.elim
  | bad => exact h.elim
theorem pickS_ok {d : D} {l : List D} (h : DkP N T S) (hN : N ≤ 1000000000) (hl : l ≠ []) (hlen : l.length ≤ 1000)
    (hd : ∀ M S', DkP M T S' → lenD S' [d] = some (.int l.length) ∧ ∀ i, ixD S' d (.int i) = L2.atI l i) :
    Ens (m__law_pick [.loc 1, d] S) fun a S' => a ∈ l ∧ DkP (N + 1) T S' := by
  have h0 : 0 < l.length := List.length_pos_iff.mpr hl
  have b : Bd (l.length : Int) 64 := bd_lt (by omega) (by omega)
  simp [m__law_pick, b__law_pick, startE, (hd N S h).1]
  refine (draw_ok h hN (by omega) (Bd.up b (by decide))).mono ?_
  rintro _ S1 ⟨v, ha, hv0, hv1, h1⟩
  subst ha
  obtain ⟨e, e1, e2⟩ := atI_nat (l := l) hv0 hv1
  rw [(hd _ S1 h1).2, e1]
  exact ⟨List.mem_of_getElem? e2, h1⟩
theorem pickL_ok {l : List D} (h : DkP N T S) (hN : N ≤ 1000000000) (hl : l ≠ []) (hlen : l.length ≤ 1000) : Ens (m__law_pick [.loc 1, .lst l] S) fun a S' => a ∈ l ∧ DkP (N + 1) T S' :=
  pickS_ok h hN hl hlen fun _ _ _ => ⟨rfl, fun _ => rfl⟩
theorem lenD_loc {k : Nat} {l : List D} (h : S[k]? = some (.lst l)) : lenD S [.loc k] = some (.int l.length) := by
  simp [lenD, seqD, der, h]
theorem ixD_loc {k : Nat} {l : List D} {i : Int} (h : S[k]? = some (.lst l)) : ixD S (.loc k) (.int i) = L2.atI l i := by
  simp [ixD, der, h]
theorem pickK_ok {l : List D} {k : Nat} (h : DkP N T S) (hk : T[k]? = some (.lst l)) (hN : N ≤ 1000000000) (hl : l ≠ []) (hlen : l.length ≤ 1000) : Ens (m__law_pick [.loc 1, .loc (k + 2)] S) fun a S' => a ∈ l ∧ DkP (N + 1) T S' :=
  pickS_ok h hN hl hlen fun _ _ h => ⟨lenD_loc (dk_at h hk), fun _ => ixD_loc (dk_at h hk)⟩
/-- what a shuffle is of -/
abbrev gd (p : Nat × Nat) : D := t2 p.1 p.2
theorem los_gd {n : Nat} {g : List (Nat × Nat)} : D.los n (g.map gd) := by
  induction g with
  | nil => trivial
  | cons a c ih => exact ⟨⟨trivial, trivial, trivial⟩, ih⟩
theorem sh_gd {g : List (Nat × Nat)} : ∀ d ∈ g.map gd, d.sh 50 := fun d hd => by
  obtain ⟨p, _, e⟩ := List.mem_map.mp hd
  subst e
  exact D.sh.up (D.sh.tup (n := 0) fun d hd => by
    simp at hd
    rcases hd with e | e <;> subst e <;> exact sh_int) (by decide)
theorem popI_ok {k : Nat} {l : List D} {v : Nat} {d : D} (h : S[k]? = some (.lst l)) (hv : l[v]? = some d) (hs : v < 1000000) : popD S (.loc k) [.int (v : Int)] = some (d, S.set k (.lst (l.eraseIdx v))) := by
  simp only [popD, h]
  rw [if_pos ⟨by omega, by omega⟩]
  simp [hv]
theorem isT_loc {k : Nat} {l : List D} (h : S[k]? = some (.lst l)) : isT S "list" (.loc k) = true := by
  unfold isT
  simp only [h]
  rfl
theorem app_loc {k : Nat} {l : List D} {d : D} (h : S[k]? = some (.lst l)) (hl : l.length < 16777216) : appD S (.loc k) [d] = some (.non, S.set k (.lst (l ++ [d]))) := by
  unfold appD
  simp only [h, hl, if_true]
theorem erase_map {α β : Type} {f : α → β} : ∀ (l : List α) (i : Nat), (l.map f).eraseIdx i = (l.eraseIdx i).map f
  | [], i => by simp
  | a :: l, 0 => by simp
  | a :: l, i + 1 => by simp [erase_map l i]
theorem erase_perm {α : Type} : ∀ (l : List α) (i : Nat) (h : i < l.length), (l[i] :: l.eraseIdx i).Perm l
  | a :: l, 0, h => by simp
  | a :: l, i + 1, h => by
    have := erase_perm l i (by simpa using h)
    simp only [List.getElem_cons_succ, List.eraseIdx_cons_succ]
    exact (List.Perm.swap _ _ _).trans (this.cons a)
theorem shuf_ok {g : List (Nat × Nat)} (h : DkP N T S) (hN : N + 1000 ≤ 1000000000) (hg : g.length ≤ 1000) :
    Ens (m__law_shuffled [.loc 1, .lst (g.map gd)] S) fun a S' => ∃ g' : List (Nat × Nat), a = .lst (g'.map gd) ∧ g'.Perm g ∧ DkP (N + g.length) T S' := by
  have loop : ∀ (n : Nat) (lg fg : List (Nat × Nat)) (M : Nat) (S1 : Sto), lg.length = n → M + n ≤ 1000000000 → lg.length + fg.length ≤ 1000 → DkP M (T ++ [.lst (lg.map gd), .lst (fg.map gd)]) S1 →
      EnsS (sWhile (bVal (mOp ne0D (mVar 2) (mLst aNil))) (sDrop (mM "list" appD (mVar 3) (aCons (mM "list" popD (mVar 2) (aCons (mCall 2 m__law_draw (aCons (mVar 0) (aCons (mB lenD (aCons (mVar 2) aNil)) aNil))) aNil)) aNil)))
        [some (.loc 1), some (.lst (g.map gd)), some (.loc (T.length + 2)), some (.loc (T.length + 3))] S1) fun r => ∃ (S2 : Sto) (g' : List (Nat × Nat)), r = .nx [some (.loc 1), some (.lst (g.map gd)), some (.loc (T.length + 2)), some (.loc (T.length + 3))] S2 ∧ g'.Perm (lg ++ fg) ∧ DkP (M + n) (T ++ [.lst [], .lst (g'.map gd)]) S2 := by
    intro n
    induction n with
    | zero =>
      intro lg fg M S1 hn hM hl hd
      have e : lg = [] := List.length_eq_zero_iff.mp hn
      subst e
      have e1 : S1[T.length + 2]? = some (.lst []) := dk_at hd (by simp)
      rw [EnsS_while]
      simp [ne0D_loc e1]
      exact ⟨fg, .rfl, hd⟩
    | succ n ih =>
      intro lg fg M S1 hn hM hl hd
      have hne : lg ≠ [] := fun z => by rw [z] at hn; cases hn
      have e1 : S1[T.length + 2]? = some (.lst (lg.map gd)) := dk_at hd (by simp)
      have e2 : S1[T.length + 3]? = some (.lst (fg.map gd)) := dk_at hd (k := T.length + 1) (by simp)
      rw [EnsS_while]
      simp [ne0D_loc e1, hne, isT_loc e1, isT_loc e2, lenD_loc e1]
      refine (draw_ok hd (by omega) (by omega) (bd_lt (n := 1000) (by omega) (by omega))).mono ?_
      rintro _ S3 ⟨v, ha, hv0, hv1, h3⟩
      subst ha
      have f1 : S3[T.length + 2]? = some (.lst (lg.map gd)) := dk_at h3 (by simp)
      have f2 : S3[T.length + 3]? = some (.lst (fg.map gd)) := dk_at h3 (k := T.length + 1) (by simp)
      have hv : v.toNat < lg.length := by omega
      have hp := popI_ok (v := v.toNat) (d := gd lg[v.toNat]) f1 (by rw [List.getElem?_map, List.getElem?_eq_getElem hv]; rfl) (by omega)
      rw [show ((v.toNat : Nat) : Int) = v by omega] at hp
      have hS4 := dk_setT h3 (k := T.length) (o := .lst ((lg.eraseIdx v.toNat).map gd))
      have f3 : (S3.set (T.length + 2) (.lst ((lg.eraseIdx v.toNat).map gd)))[T.length + 3]? = some (.lst (fg.map gd)) := by
        rw [List.getElem?_set_ne (by omega)]; exact f2
      have er : (lg.map gd).eraseIdx v.toNat = (lg.eraseIdx v.toNat).map gd := by
        rw [erase_map]
      rw [er] at hp
      simp [hp, app_loc f3 (show (fg.map gd).length < 16777216 by simp; omega)]
      have hS5 := dk_setT hS4 (k := T.length + 1) (o := .lst (fg.map gd ++ [gd lg[v.toNat]]))
      have eT : ((T ++ [O.lst (lg.map gd), O.lst (fg.map gd)]).set T.length (.lst ((lg.eraseIdx v.toNat).map gd))).set (T.length + 1) (.lst (fg.map gd ++ [gd lg[v.toNat]])) = T ++ [.lst ((lg.eraseIdx v.toNat).map gd), .lst ((fg ++ [lg[v.toNat]]).map gd)] := by
        simp [List.set_append]
      rw [eT] at hS5
      have hpl : (lg[v.toNat] :: lg.eraseIdx v.toNat).Perm lg := erase_perm _ _ hv
      have hle : (lg.eraseIdx v.toNat).length = n := by rw [List.length_eraseIdx_of_lt hv]; omega
      refine (ih (lg.eraseIdx v.toNat) (fg ++ [lg[v.toNat]]) (M + 1) _ hle (by omega) (by simp; omega) hS5).mono ?_
      rintro r ⟨S6, g', e, hp', h6⟩
      refine ⟨S6, e, g', hp'.trans ?_, h6.up (by omega)⟩
      have q1 : (lg.eraseIdx v.toNat ++ (fg ++ [lg[v.toNat]])).Perm (lg[v.toNat] :: lg.eraseIdx v.toNat ++ fg) := by
        rw [← List.append_assoc]
        exact List.perm_append_comm
      exact q1.trans (hpl.append_right fg)
  refine ens_gcF ?_
  have hl := dk_len h
  have h1 := dk_push (o := .lst []) (dk_push (o := .lst (g.map gd)) h)
  simp [m__law_shuffled, b__law_shuffled, startE, hl]
  rw [List.append_assoc] at h1
  refine (loop g.length g [] N _ rfl (by omega) (by simpa using hg) (by simpa using h1)).mono ?_
  rintro r ⟨S2, g', e, hp, h2⟩
  subst e
  have e2 : S2[T.length + 3]? = some (.lst (g'.map gd)) := dk_at h2 (k := T.length + 1) (by simp)
  simp
  have hg' := dk_gc h h2
  rw [hl] at hg'
  exact ⟨_, e2, hg'.1, los_gd, g', rfl, by simpa using hp, hg'.2⟩
end K35

namespace K35
open PySem PySem.Spec PyProof.Rows L2 Mi
variable {S T : Sto} {N : Nat}
instance : Bd 1000000 64 := ⟨by unfold Sm; decide⟩
instance : Bd 10000 64 := ⟨by unfold Sm; decide⟩
instance : Bd 999999999 64 := ⟨by unfold Sm; decide⟩
theorem dart_ok (h : DkP N T S) (hN : N + 3 ≤ 1000000000) : Ens (m__law_dart [.loc 1] S) fun a S' => ∃ x : Int, a = .int x ∧ (0 ≤ x ∧ x ≤ 1000000000000000000000000000000) ∧ DkP (N + 3) T S' := by
  simp [m__law_dart, b__law_dart, startE]
  refine (draw_ok h (by omega) (by decide) (Bd.up inferInstance (by decide))).mono ?_
  rintro _ S1 ⟨v, ha, hv0, hv1, h1⟩
  subst ha
  refine (draw_ok h1 (by omega) (by decide) (Bd.up inferInstance (by decide))).mono ?_
  rintro _ S2 ⟨w, ha, hw0, hw1, h2⟩
  subst ha
  try simp
  refine (pickL_ok h2 (by omega) (by simp) (by simp)).mono ?_
  rintro a S3 ⟨ha, h3⟩
  simp at ha
  rcases ha with e | e | e | e | e <;> subst e <;> exact ⟨_, rfl, ⟨by omega, by omega⟩, h3⟩
theorem lclaim_ok {st : Int} (h : DkP N T S) (hN : N + 20 ≤ 1000000000) (t0 : 0 ≤ st) (t1 : st ≤ 99) : Ens (m__law_claim [.loc 1, .int st] S) fun a S' => ∃ c : Cl, a = c.d ∧ c.Ok ∧ DkP (N + 20) T S' := by
  simp [m__law_claim, b__law_claim, startE]
  refine (draw_ok h (by omega) (by decide) (Bd.up inferInstance (by decide))).mono ?_
  rintro _ S1 ⟨way, ha, hy0, hy1, h1⟩
  subst ha
  try simp
  refine ⟨fun hw => ?_, fun hw => ⟨fun hw => ?_, fun hw2 => ⟨fun hw3 => ?_, fun hw3 => ?_⟩⟩⟩
  · refine (draw_ok h1 (by omega) (by decide) (Bd.up inferInstance (by decide))).mono ?_
    rintro _ S2 ⟨x, ha, hx0, hx1, h2⟩
    subst ha
    refine (draw_ok h2 (by omega) (by decide) (Bd.up inferInstance (by decide))).mono ?_
    rintro _ S3 ⟨y, ha, hy0, hy1, h3⟩
    subst ha
    try simp
    refine (draw_ok h3 (by omega) (by decide) (Bd.up inferInstance (by decide))).mono ?_
    rintro _ S4 ⟨z, ha, hz0, hz1, h4⟩
    subst ha
    try simp
    refine (dart_ok h4 (by omega)).mono ?_
    rintro _ S5 ⟨u, ha, hu, h5⟩
    subst ha
    exact ⟨⟨st, x, 1 + y, 1 + z, u⟩, by simp, ⟨t0, t1, by omega, by simp; omega, by simp; omega, by simp; omega, by simp; omega, by simp; omega, hu.1, hu.2⟩, h5.up (by omega)⟩
  · refine (draw_ok h1 (by omega) (by decide) (Bd.up inferInstance (by decide))).mono ?_
    rintro _ S2 ⟨x, ha, hx0, hx1, h2⟩
    subst ha
    try simp
    refine (draw_ok h2 (by omega) (by decide) (Bd.up inferInstance (by decide))).mono ?_
    rintro _ S3 ⟨y, ha, hy0, hy1, h3⟩
    subst ha
    try simp
    refine (draw_ok h3 (by omega) (by decide) (Bd.up inferInstance (by decide))).mono ?_
    rintro _ S4 ⟨z, ha, hz0, hz1, h4⟩
    subst ha
    try simp
    refine (dart_ok h4 (by omega)).mono ?_
    rintro _ S5 ⟨u, ha, hu, h5⟩
    subst ha
    try simp at hx1 hy1 hz1
    exact ⟨⟨st, x, 1 + y, 1 + z, u⟩, by simp, ⟨t0, t1, by omega, by simp; omega, by simp; omega, by simp; omega, by simp; omega, by simp; omega, hu.1, hu.2⟩, h5.up (by omega)⟩
  · refine (draw_ok h1 (by omega) (by decide) (Bd.up inferInstance (by decide))).mono ?_
    rintro _ S2 ⟨x, ha, hx0, hx1, h2⟩
    subst ha
    try simp
    refine (draw_ok h2 (by omega) (by decide) (Bd.up inferInstance (by decide))).mono ?_
    rintro _ S3 ⟨y, ha, hy0, hy1, h3⟩
    subst ha
    try simp
    refine (draw_ok h3 (by omega) (by decide) (Bd.up inferInstance (by decide))).mono ?_
    rintro _ S4 ⟨z, ha, hz0, hz1, h4⟩
    subst ha
    try simp
    refine (dart_ok h4 (by omega)).mono ?_
    rintro _ S5 ⟨u, ha, hu, h5⟩
    subst ha
    exact ⟨⟨st, 1000000000 - x, 1000000000 - y, 1000000 - z, u⟩, by simp, ⟨t0, t1, by simp; omega, by simp; omega, by simp; omega, by simp; omega, by simp; omega, by simp; omega, hu.1, hu.2⟩, h5.up (by omega)⟩
  · refine (draw_ok h1 (by omega) (by decide) (Bd.up inferInstance (by decide))).mono ?_
    rintro _ S2 ⟨x, ha, hx0, hx1, h2⟩
    subst ha
    try simp
    refine (pickL_ok h2 (by omega) (by simp) (by simp)).mono ?_
    rintro a S3 ⟨ha, h3⟩
    have ea : ∃ f : Int, a = .int f ∧ 0 ≤ f ∧ f ≤ 1000000000 := by
      simp at ha hx1
      rcases ha with e | e | e <;> subst e <;> exact ⟨_, rfl, by omega, by omega⟩
    obtain ⟨f, ea, f0, f1⟩ := ea
    subst ea
    refine (draw_ok h3 (by omega) (by decide) (Bd.up inferInstance (by decide))).mono ?_
    rintro _ S4 ⟨y, ha, hy0, hy1, h4⟩
    subst ha
    try simp
    refine (pickL_ok h4 (by omega) (by simp) (by simp)).mono ?_
    rintro a S5 ⟨ha, h5⟩
    have ea : ∃ n : Int, a = .int n ∧ 1 ≤ n ∧ n ≤ 1000000000 := by
      simp at ha hy1
      rcases ha with e | e | e <;> subst e <;> exact ⟨_, rfl, by omega, by omega⟩
    obtain ⟨n, ea, n0, n1⟩ := ea
    subst ea
    try simp
    refine (draw_ok h5 (by omega) (by decide) (Bd.up inferInstance (by decide))).mono ?_
    rintro _ S6 ⟨z, ha, hz0, hz1, h6⟩
    subst ha
    try simp
    refine (pickL_ok h6 (by omega) (by simp) (by simp)).mono ?_
    rintro a S7 ⟨ha, h7⟩
    have ea : ∃ s : Int, a = .int s ∧ 1 ≤ s ∧ s ≤ 1000000 := by
      simp at ha hz1
      rcases ha with e | e | e <;> subst e <;> exact ⟨_, rfl, by omega, by omega⟩
    obtain ⟨s, ea, s0, s1⟩ := ea
    subst ea
    refine (dart_ok h7 (by omega)).mono ?_
    rintro _ S8 ⟨u, ha, hu, h8⟩
    subst ha
    exact ⟨⟨st, f, n, s, u⟩, by simp, ⟨t0, t1, f0, f1, n0, n1, s0, s1, hu.1, hu.2⟩, h8.up (by omega)⟩
end K35

namespace K35
open PySem PySem.Spec PyProof.Rows L2 Mi
variable {S T : Sto} {N : Nat}
/-- how far a number may be gone back with a stride -/
def Rg (x s l m : Int) : Prop := 1 ≤ s ∧ s ≤ 1000000 ∧ 0 ≤ l ∧ l ≤ m ∧ m ≤ 999999999 ∧ -((1000000000 - x) / s) ≤ l ∧ m ≤ x / s
theorem rg_back {x s l m b : Int} (h : Rg x s l m) (h1 : l ≤ b) (h2 : b ≤ m) : 0 ≤ x - b * s ∧ x - b * s ≤ 1000000000 := by
  obtain ⟨s0, s1, l0, lm, m1, hl, hm⟩ := h
  have e1 := Int.mul_le_mul_of_nonneg_right (show b ≤ x / s by omega) (show 0 ≤ s by omega)
  have e2 := Int.ediv_mul_le x (b := s) (by omega)
  have e3 := Int.mul_le_mul_of_nonneg_right (show -((1000000000 - x) / s) ≤ b by omega) (show 0 ≤ s by omega)
  have e4 := Int.ediv_mul_le (1000000000 - x) (b := s) (by omega)
  rw [Int.neg_mul] at e3
  omega
theorem meeting_ok {c : Cl} (h : DkP N T S) (hN : N + 40 ≤ 1000000000) (hc : c.Ok) : Ens (m__law_meeting [.loc 1, c.d] S) fun a S' => ∃ e : Cl, a = e.d ∧ e.Ok ∧ DkP (N + 40) T S' := by
  obtain ⟨b1, b2, b3⟩ := hc.bd
  simp [m__law_meeting, b__law_meeting, startE, cut14]
  refine (draw_ok h (by omega) hc.n0 (Bd.up b2 (by decide))).mono ?_
  rintro _ S1 ⟨v, ha, hv0, hv1, h1⟩
  subst ha
  refine (pickL_ok h1 (by omega) (by simp) (by simp)).mono ?_
  rintro a S2 ⟨ha, h2⟩
  have ea : ∃ k : Int, a = .int k ∧ 0 ≤ k ∧ k ≤ c.n - 1 := by
    simp at ha
    have := hc.n0
    rcases ha with e | e | e <;> subst e <;> exact ⟨_, rfl, by omega, by omega⟩
  obtain ⟨k, ea, k0, k1⟩ := ea
  subst ea
  have bk : Bd k 64 := bd_lt (by omega) (by have := hc.n1; omega)
  simp
  have hx0 : 0 ≤ c.f + k * c.s := by
    have := Int.mul_nonneg k0 (show 0 ≤ c.s by have := hc.s0; omega)
    have := hc.f0
    omega
  have hx1 : c.f + k * c.s ≤ 1000000000000000 + 999000000 := by
    have := Int.mul_le_mul (show k ≤ 999999999 by have := hc.n1; omega) hc.s1 (by have := hc.s0; omega) (by decide)
    have := hc.f1
    omega
  have bx : Bd (c.f + k * c.s) 64 := bd_lt (by omega) (by omega)
  generalize hx : c.f + k * c.s = x at hx0 hx1 bx
  refine (draw_ok h2 (by omega) (by decide) (Bd.up inferInstance (by decide))).mono ?_
  rintro _ S3 ⟨w1, ha, hw0, hw1, h3⟩
  subst ha
  try simp
  refine (draw_ok h3 (by omega) (by decide) (Bd.up inferInstance (by decide))).mono ?_
  rintro _ S4 ⟨w2, ha, hw20, hw21, h4⟩
  subst ha
  try simp
  refine (pickL_ok h4 (by omega) (by simp) (by simp)).mono ?_
  rintro a S5 ⟨ha, h5⟩
  have ea : ∃ s : Int, a = .int s ∧ 1 ≤ s ∧ s ≤ 1000000 := by
    have := hc.s0
    have := hc.s1
    simp at ha hw1
    rcases ha with e | e | e | e | e | e <;> subst e <;> exact ⟨_, rfl, by omega, by omega⟩
  obtain ⟨s, ea, s0, s1⟩ := ea
  subst ea
  have bs : Bd s 64 := bd_lt (by omega) (by omega)
  have fd : ∀ y, y.fdiv s = y / s := fun y => Int.fdiv_eq_ediv_of_nonneg _ (by omega)
  have fd2 : ∀ y : Int, y.fdiv 1000000 = y / 1000000 := fun y => Int.fdiv_eq_ediv_of_nonneg _ (by omega)
  have sn : s ≠ 0 := by omega
  refine EnsS.mono (P := fun r => ∃ (s l m : Int) (x9 x10 : Option D) (S' : Sto), r = .nx [some (.loc 1), some c.d, some (.int c.f), some (.int c.n), some (.int c.s), some (.int x), some (.int s), some (.int l), some (.int m), x9, x10] S' ∧ Rg x s l m ∧ DkP (N + 5) T S') ?_ ?_
  · have r2 : ∀ (l m : Int), l = (if (1000000000 - x) / 1000000 < 0 then -((1000000000 - x) / 1000000) else 0) → m = (if x / 1000000 < 999999999 then x / 1000000 else 999999999) → Rg x 1000000 l m := fun l m el em => by
      refine ⟨by omega, by omega, ?_, ?_, ?_, ?_, ?_⟩
      · rw [el]; split <;> omega
      · rw [el, em]; split <;> split <;> omega
      · rw [em]; split <;> omega
      · rw [el]; split <;> omega
      · rw [em]; split <;> omega
    simp [EnsS_for_cons, EnsS_for_nil, fdivD_int, sn, fd, fd2]
    refine ⟨fun hle => ⟨s, _, _, _, _, S5, ⟨⟨rfl, rfl, rfl, rfl, rfl⟩, rfl⟩, ⟨s0, s1, ?_, hle, ?_, ?_, ?_⟩, h5.up (by omega)⟩, fun _ => ⟨fun hle => ?_, fun hgt => ?_⟩⟩
    · split <;> omega
    · split <;> omega
    · split <;> omega
    · split <;> omega
    · exact ⟨_, _, _, _, _, S5, ⟨⟨rfl, rfl, rfl, rfl, rfl⟩, rfl⟩, r2 _ _ rfl rfl, h5.up (by omega)⟩
    · exact ⟨_, _, _, _, _, S5, ⟨⟨rfl, rfl, rfl, rfl, rfl⟩, rfl⟩, r2 _ _ rfl rfl, h5.up (by omega)⟩
  · clear s0 s1 bs fd sn ha
    rintro r ⟨s, l, m, x9, x10, S6, e, hr, h6⟩
    subst e
    have hr' := hr
    obtain ⟨s0, s1, l0, lm, m1, hl, hm⟩ := hr'
    have bs : Bd s 64 := bd_lt (by omega) (by omega)
    simp
    refine (draw_ok h6 (by omega) (by omega) (bd_lt (n := 64) (by omega) (by omega) |>.up (by decide))).mono ?_
    rintro _ S7 ⟨w1, ha, hw10, hw11, h7⟩
    subst ha
    try simp
    refine (draw_ok h7 (by omega) (by decide) (Bd.up inferInstance (by decide))).mono ?_
    rintro _ S8 ⟨w2, ha, hw20, hw21, h8⟩
    subst ha
    try simp
    refine (pickL_ok h8 (by omega) (by simp) (by simp)).mono ?_
    rintro a S9 ⟨ha, h9⟩
    have ea : ∃ b : Int, a = .int b ∧ l ≤ b ∧ b ≤ m := by
      simp at ha
      rcases ha with e | e | e | e <;> subst e
      · exact ⟨_, rfl, by omega, by omega⟩
      · exact ⟨_, rfl, by omega, by omega⟩
      · exact ⟨_, rfl, by omega, by omega⟩
      · exact ⟨_, rfl, by split <;> omega, by split <;> omega⟩
    obtain ⟨b, ea, hb0, hb1⟩ := ea
    subst ea
    obtain ⟨q0, q1⟩ := rg_back hr hb0 hb1
    have bb : Bd b 64 := bd_lt (by omega) (by omega)
    try simp
    refine (draw_ok h9 (by omega) (by decide) (Bd.up inferInstance (by decide))).mono ?_
    rintro _ S10 ⟨w3, ha, hw30, hw31, h10⟩
    subst ha
    try simp
    refine (pickL_ok h10 (by omega) (by simp) (by simp)).mono ?_
    rintro a S11 ⟨ha, h11⟩
    have ea : ∃ y : Int, a = .int y ∧ 0 ≤ y := by
      simp at ha
      rcases ha with e | e | e | e <;> subst e <;> exact ⟨_, rfl, by omega⟩
    obtain ⟨y, ea, hy⟩ := ea
    subst ea
    try simp
    refine (dart_ok h11 (by omega)).mono ?_
    rintro _ S12 ⟨u, ha, hu, h12⟩
    subst ha
    refine ⟨⟨c.t, x - b * s, if 1 < (if b + y < 1000000000 then b + y else 1000000000) then (if b + y < 1000000000 then b + y else 1000000000) else 1, s, u⟩, ⟨rfl, rfl, rfl, rfl, rfl⟩, ⟨hc.t0, hc.t1, q0, q1, ?_, ?_, s0, s1, hu.1, hu.2⟩, h12.up (by omega)⟩
    · simp only; split <;> (try split) <;> omega
    · simp only; split <;> (try split) <;> omega
end K35

namespace K35
open PySem PySem.Spec PyProof.Rows L2 Mi
variable {S T : Sto} {N : Nat}
theorem cut_len {l : List D} {lo hi : Option Int} : (Mi.cutD l lo hi).length ≤ l.length := by
  unfold Mi.cutD
  rw [List.length_take, List.length_drop]; omega
theorem cut_mem {l : List D} {lo hi : Option Int} {d : D} (h : d ∈ Mi.cutD l lo hi) : d ∈ l := List.mem_of_mem_drop (List.mem_of_mem_take h)
theorem od_cut {l : List D} {lo hi : Option Int} (h : ∀ d ∈ l, od d = true) : ∀ d ∈ Mi.cutD l lo hi, od d = true := fun d hd => h d (cut_mem hd)
theorem mem_rep {l : List D} {n : Nat} {d : D} (h : d ∈ (List.replicate n l).flatten) : d ∈ l := by
  obtain ⟨m, hm, hd⟩ := List.mem_flatten.mp h
  rw [List.eq_of_mem_replicate hm] at hd
  exact hd
@[simp] theorem mulD_lst {l : List D} {j : Int} (h0 : 0 ≤ j) (h1 : j ≤ 100000) (h2 : l.length * j.toNat ≤ 16777216) : mulD S (.lst l) (.int j) = some (.lst (List.replicate j.toNat l).flatten) := if_pos ⟨h0, h1, h2⟩
theorem sh0 : SeqAt.shaped (.str (PySem.Str.ofString "")) = true := sh_ofString _
theorem odd_ok {n : Nat} {it : D} (h : DkP N T S) (hN : N + 1 ≤ 1000000000) (hi : innd n it = true) : Ens (m__law_odd [.loc 1, it] S) fun a S' => od a = true ∧ DkP (N + 1) T S' := by
  have hb : ∀ s : String, od (.str (PySem.Str.ofString s)) = true := fun s => sh_ofString s
  have fin : ∀ (X : List D) (S : Sto), DkP N T S → X.length ≤ 500 → X ≠ [] → (∀ d ∈ X, od d = true) → Ens (m__law_pick [.loc 1, .lst X] S) fun a S' => od a = true ∧ DkP (N + 1) T S' := fun X S h hl hne hX =>
    (pickL_ok h (by omega) hne (by omega)).mono fun a S' ⟨h1, h2⟩ => ⟨hX a h1, h2⟩
  have base : ∀ d ∈ [D.non, .bl true, .bl false, .int 0, .int 1, .int (-1), .int 2, .int 100, .int 1000000000000000000000000000000, .str "", .str "clear", .str "clash", .tup [], .tup [.tup []], .lst [], .dic [] [], .tup [.int 0], .lst [.int 0], .dic [.inr "a"] [.int 1]], od d = true := by
    intro d hd
    simp at hd
    rcases hd with e | e | e | e | e | e | e | e | e | e | e | e | e | e | e | e | e | e | e <;> subst e <;> first | rfl | exact hb _ | simp [od_tup, od_lst]
  cases n with
  | zero => cases hi
  | succ n =>
    cases it with
    | tup l =>
      have h' : (∀ x ∈ l, innd n x = true) ∧ l.length ≤ 100 := by simpa [innd] using hi
      have hl : ∀ d ∈ l, od d = true := fun d hd => innd_od n d (h'.1 d hd)
      have c1 := fun lo hi => cut_len (l := l) (lo := lo) (hi := hi)
      simp [m__law_odd, b__law_odd, startE, isiD, D.tyn, askTys, isiB]
      rw [addD_tup (by simp; omega)]
      simp
      rw [addD_tup (by have := c1 none (some 1); omega)]
      simp
      rw [addD_tup (by have := c1 none (some 1); omega)]
      simp
      refine fin _ S h (by simp) (by simp) fun d hd => ?_
      rw [show ∀ (a b c d e f g h i j k l m n o p q r s : D) (t : List D), a :: b :: c :: d :: e :: f :: g :: h :: i :: j :: k :: l :: m :: n :: o :: p :: q :: r :: s :: t = [a, b, c, d, e, f, g, h, i, j, k, l, m, n, o, p, q, r, s] ++ t from fun _ _ _ _ _ _ _ _ _ _ _ _ _ _ _ _ _ _ _ _ => rfl] at hd
      rcases List.mem_append.mp hd with q | q
      · exact base d q
      · have odc : ∀ lo hi, od (.tup (Mi.cutD l lo hi)) = true := fun lo hi => od_tup.mpr ⟨od_cut hl, by have := c1 lo hi; omega⟩
        have p1 : od (.lst l) = true := od_lst.mpr ⟨hl, by omega⟩
        have p2 : od (.tup (l ++ [.int 0])) = true := by
          refine od_tup.mpr ⟨fun d hd => ?_, by simp; omega⟩
          rcases List.mem_append.mp hd with z | z
          · exact hl d z
          · simp at z; subst z; rfl
        have p3 := odc (some 1) none
        have p4 := odc none (some (-1))
        have p5 : od (.tup l.reverse) = true := od_tup.mpr ⟨fun d hd => hl d (List.mem_reverse.mp hd), by simp; omega⟩
        have p6 : od (.tup (l ++ Mi.cutD l none (some 1))) = true := by
          refine od_tup.mpr ⟨fun d hd => ?_, by have := c1 none (some 1); simp; omega⟩
          rcases List.mem_append.mp hd with z | z
          · exact hl d z
          · exact od_cut hl d z
        have p7 : od (.tup [.tup l]) = true := od_tup.mpr ⟨fun d hd => by simp at hd; subst hd; exact od_tup.mpr ⟨hl, by omega⟩, by simp⟩
        have p8 : od (.tup (Mi.cutD l none (some 1) ++ l)) = true := by
          refine od_tup.mpr ⟨fun d hd => ?_, by have := c1 none (some 1); simp; omega⟩
          rcases List.mem_append.mp hd with z | z
          · exact od_cut hl d z
          · exact hl d z
        simp only [List.mem_cons, List.not_mem_nil, or_false] at q
        rcases q with e | e | e | e | e | e | e | e | e | e | e | e | e | e | e | e | e | e | e | e | e | e | e | e <;> subst e <;> first | exact p1 | exact p2 | exact p3 | exact p4 | exact p5 | exact p6 | exact p7 | exact p8
    | int i =>
      have hi' : i.natAbs < 2 ^ 1000 := by simpa [innd] using hi
      have hlog : i.natAbs.log2 < 1920 := by
        by_cases z : i.natAbs = 0
        · rw [z]; decide
        · have := (Nat.log2_lt z).mpr (show i.natAbs < 2 ^ 1920 from Nat.lt_of_lt_of_le hi' (Nat.pow_le_pow_right (by decide) (by decide)))
          exact this
      simp [m__law_odd, b__law_odd, startE, isiD, D.tyn, askTys, isiB, strD_ok hlog]
      refine fin _ S h (by simp) (by simp) fun d hd => ?_
      rw [show ∀ (a b c d e f g h i j k l m n o p q r s : D) (t : List D), a :: b :: c :: d :: e :: f :: g :: h :: i :: j :: k :: l :: m :: n :: o :: p :: q :: r :: s :: t = [a, b, c, d, e, f, g, h, i, j, k, l, m, n, o, p, q, r, s] ++ t from fun _ _ _ _ _ _ _ _ _ _ _ _ _ _ _ _ _ _ _ _ => rfl] at hd
      rcases List.mem_append.mp hd with q | q
      · exact base d q
      · simp only [List.mem_cons, List.not_mem_nil, or_false] at q
        rcases q with e | e | e | e | e | e | e | e | e | e | e | e | e | e | e | e | e | e | e | e | e | e | e | e <;> subst e <;> first | rfl | exact sh_toString _ | simp [od_tup, od_lst]
    | str x =>
      have h' : SeqAt.shaped (.str x) = true ∧ x.length ≤ 100 := by simpa [innd] using hi
      have hx : od (.str x) = true := h'.1
      have la : ∀ y : Str, y.length ≤ 100 → addD S (.str x) (.str y) = some (.str (x ++ y)) := fun y hy => if_pos (by omega)
      have ls : slA S (.str x) (some 1) none = some (.str (cutS x (some 1) none)) := if_pos (by omega)
      simp [m__law_odd, b__law_odd, startE, isiD, D.tyn, askTys, isiB, la, ls, h'.2, show (PySem.Str.ofString "a").length ≤ 100 by decide +kernel, show (PySem.Str.ofString " ").length ≤ 100 by decide +kernel]
      refine fin _ S h (by simp) (by simp) fun d hd => ?_
      rw [show ∀ (a b c d e f g h i j k l m n o p q r s : D) (t : List D), a :: b :: c :: d :: e :: f :: g :: h :: i :: j :: k :: l :: m :: n :: o :: p :: q :: r :: s :: t = [a, b, c, d, e, f, g, h, i, j, k, l, m, n, o, p, q, r, s] ++ t from fun _ _ _ _ _ _ _ _ _ _ _ _ _ _ _ _ _ _ _ _ => rfl] at hd
      rcases List.mem_append.mp hd with q | q
      · exact base d q
      · have p1 : od (.str (x ++ PySem.Str.ofString "a")) = true := sh_append h'.1 (sh_ofString _)
        have p2 : od (.str (x ++ PySem.Str.ofString " ")) = true := sh_append h'.1 (sh_ofString _)
        have p3 : od (.str (cutS x (some 1) none)) = true := sh_cut h'.1
        have p4 : od (.lst [.str x]) = true := od_lst.mpr ⟨fun d hd => by simp at hd; subst hd; exact hx, by simp⟩
        have p5 : od (.tup [.str x]) = true := od_tup.mpr ⟨fun d hd => by simp at hd; subst hd; exact hx, by simp⟩
        have p6 : od (.str (x ++ x)) = true := sh_append h'.1 h'.1
        simp only [List.mem_cons, List.not_mem_nil, or_false] at q
        rcases q with e | e | e | e | e | e | e | e | e | e | e | e | e | e | e | e | e | e <;> subst e <;> first | exact p1 | exact p2 | exact p3 | exact p4 | exact p5 | exact p6
    | _ => cases hi
/-- a value with one part changed -/
theorem bent_ok : ∀ (n : Nat) (it : D) (N : Nat) (S : Sto), DkP N T S → N + 3 * n ≤ 1000000000 → innd n it = true → Ens (m__law_bent n [.loc 1, it] S) fun a S' => od a = true ∧ DkP (N + 3 * n) T S'
  | 0, it, N, S, h, hN, hi => by cases hi
  | n + 1, it, N, S, h, hN, hi => by
    have e : m__law_bent (n + 1) = fnP N__law_bent.length (b__law_bent (m__law_bent n)) := rfl
    have odd := fun (N' : Nat) (S : Sto) (h : DkP N' T S) (hN' : N' ≤ N + 1) => (odd_ok (n := n + 1) h (by omega) hi).mono (P' := fun a S' => od a = true ∧ DkP (N + 3 * (n + 1)) T S') fun a S' ⟨h1, h2⟩ => ⟨h1, h2.up (by omega)⟩
    cases it with
    | tup l =>
      have h' : (∀ x ∈ l, innd n x = true) ∧ l.length ≤ 100 := by simpa [innd] using hi
      have hl : ∀ d ∈ l, od d = true := fun d hd => innd_od n d (h'.1 d hd)
      by_cases hne : l = []
      · subst hne
        simp [e, b__law_bent, startE, isiD, D.tyn, askTys, isiB]
        exact odd N S h (by omega)
      · have hpos : 0 < l.length := List.length_pos_iff.mpr hne
        simp [e, b__law_bent, startE, isiD, D.tyn, askTys, isiB, hne]
        refine (draw_ok h (by omega) (by decide) (Bd.up inferInstance (by decide))).mono ?_
        rintro _ S1 ⟨v, ha, hv0, hv1, h1⟩
        subst ha
        simp
        refine ⟨fun _ => odd _ _ h1 (by omega), fun _ => ?_⟩
        refine (draw_ok h1 (by omega) (by omega) (bd_lt (n := 64) (by omega) (by omega) |>.up (by decide))).mono ?_
        rintro _ S2 ⟨w, ha, hw0, hw1, h2⟩
        subst ha
        obtain ⟨x, e1, e2⟩ := atI_nat (l := l) hw0 hw1
        simp [e1]
        refine (bent_ok n x _ S2 h2 (by omega) (h'.1 x (List.mem_of_getElem? e2))).mono ?_
        rintro y S3 ⟨hy, h3⟩
        have c1 := cut_len (l := l) (lo := none) (hi := some w)
        have c2 := cut_len (l := l) (lo := some (w + 1)) (hi := none)
        rw [addD_tup (by simp; omega)]
        simp
        rw [addD_tup (by simp; omega)]
        refine ⟨od_tup.mpr ⟨fun d hd => ?_, by simp; omega⟩, h3.up (by omega)⟩
        rcases List.mem_append.mp hd with z | z
        · rcases List.mem_append.mp z with z | z
          · exact od_cut hl d z
          · simp at z; subst z; exact hy
        · exact od_cut hl d z
    | int i =>
      simp [e, b__law_bent, startE, isiD, D.tyn, askTys, isiB]
      exact odd N S h (by omega)
    | str x =>
      simp [e, b__law_bent, startE, isiD, D.tyn, askTys, isiB]
      exact odd N S h (by omega)
    | _ => cases hi
end K35

namespace K35
open PySem PySem.Spec PyProof.Rows L2 Mi
variable {S T : Sto} {N : Nat}
open Classical in
theorem ispaper_eq {l : List Cl} {L : List Th} (h : Pap l L) (hL : L.length ≤ 10000) {d : D} (ho : od d = true) : m__law_is_paper [.lst (L.map Th.d), d] S = .ok (.bl (decide (∃ t, thOf d = some t ∧ Jud l t))) S := ens_eq (by
  have key : ∀ M : List Th, M.length ≤ 10000 → (∀ t, thOf d = some t → (t ∈ M ↔ Jud l t)) → Ens (lcD (gN 2) (bVal (mCall 2 (m__law_same 5) (aCons (mVar 1) (aCons (mVar 2) aNil)))) (mVar 2) (fun _ => True) [some (.lst (L.map Th.d)), some d, none] (M.map Th.d) S []) fun z S2 => (decide (z = []) = !decide (∃ t, thOf d = some t ∧ Jud l t)) ∧ S2 = S := fun M hM hj => by
    refine lc_inv (fun k acc S' => S' = S ∧ acc.length ≤ k ∧ (acc ≠ [] ↔ ∃ t, thOf d = some t ∧ t ∈ M.take k)) _ 0 _ _ ⟨rfl, Nat.zero_le _, by simp⟩ (fun _ _ _ _ _ _ => trivial) (fun i d' acc S' hk hd' hi => ?_) (fun acc S' hi => ?_)
    · obtain ⟨e1, hA, hi⟩ := hi
      rw [show i - 0 = i from rfl, List.getElem?_map] at hd'
      cases hu : M[i]? with
      | none => rw [hu] at hd'; cases hd'
      | some u =>
        rw [hu] at hd'
        cases hd'
        subst e1
        have hi2 : i < M.length := (List.getElem?_eq_some_iff.mp hu).1
        have ht : (∃ t, thOf d = some t ∧ t ∈ M.take (i + 1)) ↔ (∃ t, thOf d = some t ∧ t ∈ M.take i) ∨ thOf d = some u := by
          rw [List.take_succ, hu]
          constructor
          · rintro ⟨t, h1, h2⟩
            rcases List.mem_append.mp h2 with q | q
            · exact .inl ⟨t, h1, q⟩
            · simp at q; subst q; exact .inr h1
          · rintro (⟨t, h1, h2⟩ | h1)
            · exact ⟨t, h1, List.mem_append_left _ h2⟩
            · exact ⟨u, h1, by simp⟩
        by_cases q : thOf d = some u
        · simp [Ens_is (same_od ho), q]
          refine ⟨by omega, by omega, ?_⟩
          simp [q] at ht
          exact ht
        · simp [Ens_is (same_od ho), q]
          refine ⟨by omega, ?_⟩
          rw [ht]
          simpa [q] using hi
    · obtain ⟨e1, hA, hi⟩ := hi
      subst e1
      rw [show M.take (0 + (M.map Th.d).length) = M by simp] at hi
      have hi3 : acc ≠ [] ↔ ∃ t, thOf d = some t ∧ Jud l t := by
        rw [hi]
        constructor
        · rintro ⟨t, h1, h2⟩; exact ⟨t, h1, (hj t h1).mp h2⟩
        · rintro ⟨t, h1, h2⟩; exact ⟨t, h1, (hj t h1).mpr h2⟩
      refine ⟨?_, rfl⟩
      rw [← decide_not]
      exact decide_eq_decide.mpr ⟨fun z w => (hi3.mpr w) z, fun z => Classical.byContradiction fun w => z (hi3.mp w)⟩
  simp [m__law_is_paper, b__law_is_paper, startE, wipeE]
  refine ⟨fun hne => ?_, fun he => ?_⟩
  · refine key L hL fun t _ => ?_
    rw [h t]
    refine ⟨fun z => z.2, fun z => ⟨fun e => ?_, z⟩⟩
    subst e
    exact hne (h.nil.mpr z)
  · refine key [.clear] (by simp) fun t _ => ?_
    have hc := h.nil.mp he
    constructor
    · intro z
      simp at z
      subst z
      exact hc
    · intro z
      cases t with
      | clear => simp
      | clash a b x => exact absurd z (clear_iff.mp hc a b x))
/-- any value as a claim, as a book -/
def clB : D → Bool
  | .tup [a, b, c, e, f] => btw 0 99 a && btw 0 1000000000 b && btw 1 1000000000 c && btw 1 1000000 e && frm 0 f
  | _ => false
def bookB : D → Bool
  | .tup l => l.all clB
  | _ => false
theorem isclaim_od {d : D} (h : od d = true) : m_is_claim_value [d] S = .ok (.bl (clB d)) S := ens_eq (by
  cases d with
  | tup m =>
    have hm := (od_tup.mp h).1
    match m, hm, h with
    | [a, b, c, e, f], hm, h =>
      have h1 := hm a (by simp)
      have h2 := hm b (by simp)
      have h3 := hm c (by simp)
      have h4 := hm e (by simp)
      have h5 := hm f (by simp)
      simp [m_is_claim_value, b_is_claim_value, startE, Ens_is (istup_od h), Ens_is (btw_od h1), Ens_is (btw_od h2), Ens_is (btw_od h3), Ens_is (btw_od h4), Ens_is (frm_od h5), clB]
      cases btw 0 99 a <;> cases btw 0 1000000000 b <;> cases btw 1 1000000000 c <;> cases btw 1 1000000 e <;> simp
    | [], hm, h => simp [m_is_claim_value, b_is_claim_value, startE, Ens_is (istup_od h), clB]
    | [a], hm, h => simp [m_is_claim_value, b_is_claim_value, startE, Ens_is (istup_od h), clB]
    | [a, b], hm, h => simp [m_is_claim_value, b_is_claim_value, startE, Ens_is (istup_od h), clB]
    | [a, b, c], hm, h => simp [m_is_claim_value, b_is_claim_value, startE, Ens_is (istup_od h), clB]
    | [a, b, c, e], hm, h => simp [m_is_claim_value, b_is_claim_value, startE, Ens_is (istup_od h), clB]
    | a :: b :: c :: e :: f :: g :: r, hm, h =>
      have : ¬ ((r.length : Int) + 1 + 1 + 1 + 1 + 1 + 1 = 5) := by omega
      simp [m_is_claim_value, b_is_claim_value, startE, Ens_is (istup_od h), clB]
      intro z; omega
  | _ => first | (cases h; done) | simp [m_is_claim_value, b_is_claim_value, startE, Ens_is (istup_od h), clB])
theorem bls_mapB {f : D → Bool} {l : List D} : blsD (l.map fun d => D.bl (f d)) = some (l.map f) := by
  induction l with
  | nil => rfl
  | cons a l ih => simp [blsD, ih]
theorem isbookv_od {d : D} (h : od d = true) : m_is_book_value [d] S = .ok (.bl (bookB d)) S := ens_eq (by
  cases d with
  | tup m =>
    have hm := od_tup.mp h
    simp [m_is_book_value, b_is_book_value, startE, isiD, D.tyn, askTys, isiB, wipeE]
    refine lc_inv (fun k acc S' => S' = S ∧ acc = (m.take k).map fun d => .bl (clB d)) _ 0 _ _ ⟨rfl, rfl⟩ (fun _ _ _ _ _ _ => trivial) (fun i d' acc S' hk hd' hi => ?_) (fun acc S' hi => ?_)
    · obtain ⟨e1, e2⟩ := hi
      rw [show i - 0 = i from rfl] at hd'
      have h1 := hm.1 d' (List.mem_of_getElem? hd')
      have hi2 := (List.getElem?_eq_some_iff.mp hd').1
      subst e1
      simp [Ens_is (isclaim_od h1)]
      refine ⟨by rw [e2]; simp; omega, ?_⟩
      rw [e2]
      simp only [List.map_take]
      rw [List.take_succ, List.getElem?_map, hd']
      rfl
    · obtain ⟨e1, e2⟩ := hi
      subst e1 e2
      rw [show m.take (0 + m.length) = m by simp]
      rw [show allD S' [.lst (m.map fun d => D.bl (clB d))] = some (.bl ((m.map clB).all id)) by simp only [allD, lstD_lst, Option.bind, bls_mapB]; rfl]
      simp [bookB]
  | _ => first | (cases h; done) | simp [m_is_book_value, b_is_book_value, startE, isiD, D.tyn, askTys, isiB, bookB])
theorem isbook_od {d : D} (h : od d = true) : m_is_book [d] S = .ok (.bl (bookB d)) S := ens_eq (by
  simp [m_is_book, b_is_book, startE, Ens_is (isbookv_od h)])
theorem nonint {l : List D} {e0 e1 e2 : Option D} {gd : Sto → Prop} (hg : gd S) (hl : ∀ d ∈ l, od d = true) (hlen : l.length ≤ 1000) {P : List D → Sto → Prop} (hP : P (l.filter fun d => !isI d) S) :
    Ens (lcD (gN 2) (bNot (bVal (mCall 1 m__law_is_integer (aCons (mVar 2) aNil)))) (mVar 2) gd [e0, e1, e2] l S []) P := by
  refine lc_inv (fun k acc S' => S' = S ∧ acc = (l.take k).filter fun d => !isI d) _ 0 _ _ ⟨rfl, rfl⟩ (fun _ _ _ _ _ hi => by rw [hi.1]; exact hg) (fun i d' acc S' hk hd' hi => ?_) (fun acc S' hi => ?_)
  · obtain ⟨e1, e2⟩ := hi
    rw [show i - 0 = i from rfl] at hd'
    have h1 := hl d' (List.mem_of_getElem? hd')
    have hi2 := (List.getElem?_eq_some_iff.mp hd').1
    have hlen2 : acc.length < 16777216 := by
      have := List.length_filter_le (fun d => !isI d) (l.take i)
      rw [← e2, List.length_take] at this
      omega
    subst e1
    cases hq : isI d' <;> simp [Ens_is (lisint_od h1), hq, hlen2, List.take_succ, hd', e2]
    rw [← e2]; exact hlen2
  · obtain ⟨e1, e2⟩ := hi
    subst e1 e2
    simpa using hP
theorem lisbook_od {d : D} (h : od d = true) : m__law_is_book [d] S = .ok (.bl (bookB d)) S := ens_eq (by
  cases d with
  | tup m =>
    have hm := od_tup.mp h
    simp [m__law_is_book, b__law_is_book, startE, isiD, D.tyn, askTys, isiB]
    refine for_inv (fun k env S' => S' = S ∧ (∃ x1 x2, env = [some (.tup m), x1, x2]) ∧ ∀ x ∈ m.take k, clB x = true) _ 0 _ _ ⟨rfl, ⟨none, none, rfl⟩, by simp⟩ (fun _ _ _ _ _ _ => trivial) (fun i x env S' hk hd' hi => ?_) (fun env S' hi => ?_)
    · obtain ⟨e1, ⟨x1, x2, e2⟩, hi⟩ := hi
      rw [show i - 0 = i from rfl] at hd'
      have hx := hm.1 x (List.mem_of_getElem? hd')
      subst e1 e2
      have step : ∀ x2' : Option D, clB x = true → ∀ y ∈ m.take (i + 1), clB y = true := fun _ hc y hy => by
        rw [List.take_succ, hd'] at hy
        rcases List.mem_append.mp hy with z | z
        · exact hi y z
        · simp at z; rw [z]; exact hc
      have bad : clB x = false → bookB (.tup m) = false := fun hc => by
        unfold bookB
        rw [List.all_eq_false]
        exact ⟨x, List.mem_of_getElem? hd', by simp [hc]⟩
      have fin0 : clB x = false → D.bl false = .bl (bookB (.tup m)) := fun hc => by rw [bad hc]
      cases x with
      | tup q =>
        have hq := od_tup.mp hx
        by_cases h5 : q.length = 5
        · match q, h5, hq, hx, step, bad, fin0 with
          | [a, b, c, e, f], _, hq, hx, step, bad, fin0 =>
          simp [wipeE, isiD, D.tyn, askTys, isiB]
          refine nonint (gd := gdSeq (.tup [a, b, c, e, f]) [a, b, c, e, f]) trivial hq.1 (by simp) ?_
          cases a with
          | int a =>
            cases b with
            | int b =>
              cases c with
              | int c =>
                cases e with
                | int e =>
                  cases f with
                  | int f =>
                    simp [isI]
                    have hc : clB (.tup [.int a, .int b, .int c, .int e, .int f]) = (decide (0 ≤ a ∧ a ≤ 99) && decide (0 ≤ b ∧ b ≤ 1000000000) && decide (1 ≤ c ∧ c ≤ 1000000000) && decide (1 ≤ e ∧ e ≤ 1000000) && decide (0 ≤ f)) := rfl
                    refine ⟨fun a0 => ⟨fun q => bad ?_, fun a1 => ⟨fun b0 => ⟨fun q => bad ?_, fun b1 => ⟨fun c0 => ⟨fun q => bad ?_, fun c1 => ⟨fun e0 => ⟨fun q => bad ?_, fun e1 => ⟨fun q => bad ?_, fun f0 => step none ?_⟩⟩, fun q => bad ?_⟩⟩, fun q => bad ?_⟩⟩, fun q => bad ?_⟩⟩, fun q => bad ?_⟩ <;> rw [hc] <;> simp <;> omega
                  | _ => simp [isI]; exact bad (by simp [clB, frm])
                | _ => simp [isI]; exact bad (by simp [clB, btw])
              | _ => simp [isI]; exact bad (by simp [clB, btw])
            | _ => simp [isI]; exact bad (by simp [clB, btw])
          | _ => simp [isI]; exact bad (by simp [clB, btw])
        · have h5' : ¬ ((q.length : Int) = 5) := by omega
          simp [h5', isiD, D.tyn, askTys, isiB]
          refine bad ?_
          match q, h5 with
          | [], _ => rfl
          | [a], _ => rfl
          | [a, b], _ => rfl
          | [a, b, c], _ => rfl
          | [a, b, c, e], _ => rfl
          | [a, b, c, e, f], h5 => exact absurd rfl h5
          | a :: b :: c :: e :: f :: g :: r, _ => rfl
      | _ => first | (cases hx; done) | (simp [isiD, D.tyn, askTys, isiB]; exact bad rfl)
    · obtain ⟨e1, ⟨x1, x2, e2⟩, hi⟩ := hi
      subst e1 e2
      rw [show m.take (0 + m.length) = m by simp] at hi
      simp [bookB]
      exact hi
  | _ => first | (cases h; done) | simp [m__law_is_book, b__law_is_book, startE, isiD, D.tyn, askTys, isiB, bookB])
end K35

namespace K35
open PySem PySem.Spec PyProof.Rows L2 Mi
variable {S T : Sto} {N : Nat}
theorem perm_map' {α β : Type} {f : α → β} : ∀ {m l : List β}, m.Perm l → ∀ L : List α, l = L.map f → ∃ L' : List α, m = L'.map f ∧ L'.Perm L := by
  intro m l h
  induction h with
  | nil => exact fun L e => ⟨L, e, .rfl⟩
  | cons a _ ih =>
    intro L e
    cases L with
    | nil => cases e
    | cons d L =>
      simp at e
      obtain ⟨L', e2, p⟩ := ih L e.2
      exact ⟨d :: L', by simp [e.1, e2], p.cons d⟩
  | swap a b t =>
    intro L e
    cases L with
    | nil => cases e
    | cons d L =>
      cases L with
      | nil => simp at e
      | cons d2 L =>
        simp at e
        exact ⟨d2 :: d :: L, by simp [e.1, e.2.1, e.2.2], .swap _ _ _⟩
  | trans _ _ ih1 ih2 =>
    intro L e
    obtain ⟨L1, e1, p1⟩ := ih2 L e
    obtain ⟨L2, e2, p2⟩ := ih1 L1 e1
    exact ⟨L2, e2, p2.trans p1⟩
theorem los_th {n : Nat} {g : List Th} : D.los n (g.map Th.d) := by
  induction g with
  | nil => trivial
  | cons a c ih =>
    refine ⟨?_, ih⟩
    cases a
    · exact ⟨trivial, trivial⟩
    · exact ⟨trivial, trivial, trivial, trivial, trivial⟩
def Wk (l : List Cl) (i j : Nat) (t : Th) : Prop := ∃ (c e : Cl) (x : Int), i < j ∧ l[i]? = some c ∧ l[j]? = some e ∧ com c e = some x ∧ t = .clash i j x
theorem clashes_ok {l : List Cl} (h : Bk l) (hl : l.length ≤ 20) : Ens (m__law_clashes [bk l] S) fun a S' => S' = S ∧ ∃ L : List Th, a = .lst (L.map Th.d) ∧ L.length ≤ 900 ∧ Pap l L := by
  refine ens_gc ?_
  simp [m__law_clashes, b__law_clashes, startE]
  simp [bk]
  refine ⟨by omega, ?_⟩
  refine for_inv (fun k env S' => ∃ (L : List Th) (x2 x3 x4 : Option D), env = [some (bk l), some (.loc S.length), x2, x3, x4] ∧ S' = S ++ [.lst (L.map Th.d)] ∧ L.length ≤ 20 * k ∧ ∀ t, t ∈ L ↔ ∃ i j, j < k ∧ Wk l i j t) _ 0 _ _
    ⟨[], none, none, none, rfl, rfl, by simp, by simp⟩ (fun _ _ _ _ _ _ => trivial) (fun j d' env S' hk hd' hi => ?_) (fun env S' hi => ?_)
  · obtain ⟨L, x2, x3, x4, e, e2, hL, hi⟩ := hi
    rw [show j - 0 = j from rfl] at hd'
    obtain ⟨hj, e3⟩ := rng_get hd'
    subst e e2 e3
    have hej : l[j]? = some l[j] := List.getElem?_eq_getElem hj
    simp
    refine ⟨by omega, ?_⟩
    refine for_inv (fun k env S' => ∃ (L : List Th) (x3 x4 : Option D), env = [some (bk l), some (.loc S.length), some (.int (j : Int)), x3, x4] ∧ S' = S ++ [.lst (L.map Th.d)] ∧ L.length ≤ 20 * j + k ∧ ∀ t, t ∈ L ↔ ∃ i j', (j' < j ∨ j' = j ∧ i < k) ∧ Wk l i j' t) _ 0 _ _
      ⟨L, x3, x4, rfl, rfl, by omega, fun t => (hi t).trans ⟨fun ⟨i, j', z, w⟩ => ⟨i, j', .inl z, w⟩, fun ⟨i, j', z, w⟩ => ⟨i, j', by omega, w⟩⟩⟩ (fun _ _ _ _ _ _ => trivial) (fun i d' env S' hk hd' hi => ?_) (fun env S' hi => ?_)
    · obtain ⟨L, x3, x4, e, e2, hL, hi⟩ := hi
      rw [show i - 0 = i from rfl] at hd'
      obtain ⟨hij, e3⟩ := rng_get hd'
      subst e e2 e3
      have hei : l[i]? = some l[i] := List.getElem?_eq_getElem (by omega)
      have oi := h.1 _ (List.mem_of_getElem? hei)
      have oj := h.1 _ (List.mem_of_getElem? hej)
      simp [bk, atI_get (mapC hei), atI_get (mapC hej), Ens_is (lcommon_eq oi oj)]
      cases hx : com l[i] l[j] with
      | none =>
        simp [oD, D.isNon]
        refine ⟨L, rfl, by omega, fun t => (hi t).trans ⟨fun ⟨i', j', z, w⟩ => ⟨i', j', by omega, w⟩, fun ⟨i', j', z, w⟩ => ⟨i', j', ?_, w⟩⟩⟩
        rcases z with z | ⟨z1, z2⟩
        · exact .inl z
        · refine .inr ⟨z1, ?_⟩
          by_cases q : i' = i
          · subst q z1
            obtain ⟨c', f', x', _, q1, q2, q3, _⟩ := w
            rw [hei] at q1; rw [hej] at q2
            cases q1; cases q2
            rw [hx] at q3; cases q3
          · omega
      | some x =>
        simp [oD, D.isNon, isT_end]
        rw [app_end (by simp; omega)]
        simp
        refine ⟨L ++ [.clash i j x], by simp [Th.d], by simp; omega, fun t => ?_⟩
        rw [List.mem_append, hi t]
        constructor
        · rintro (⟨i', j', z, w⟩ | z)
          · exact ⟨i', j', by omega, w⟩
          · simp at z
            exact ⟨i, j, .inr ⟨rfl, by omega⟩, _, _, x, hij, hei, hej, hx, z⟩
        · rintro ⟨i', j', z, w⟩
          by_cases q : i' = i ∧ j' = j
          · obtain ⟨q1, q2⟩ := q
            subst q1 q2
            obtain ⟨c', f', x', _, q1, q2, q3, q4⟩ := w
            rw [hei] at q1; rw [hej] at q2
            cases q1; cases q2
            rw [hx] at q3; cases q3
            right
            rw [q4]; simp
          · left
            exact ⟨i', j', by omega, w⟩
    · obtain ⟨L, x3, x4, e, e2, hL, hi⟩ := hi
      subst e e2
      rw [rangeD_length] at hL hi
      refine ⟨⟨_, _, _, rfl⟩, L, rfl, by omega, fun t => (hi t).trans ⟨fun ⟨i', j', z, w⟩ => ⟨i', j', by omega, w⟩, fun ⟨i', j', z, w⟩ => ⟨i', j', ?_, w⟩⟩⟩
      obtain ⟨_, _, _, q, _⟩ := w
      omega
  · obtain ⟨L, x2, x3, x4, e, e2, hL, hi⟩ := hi
    subst e e2
    rw [rangeD_length] at hL hi
    have e1 : (S ++ [O.lst (L.map Th.d)])[S.length]? = some (.lst (L.map Th.d)) := by simp
    have hs : sortTD (S ++ [.lst (L.map Th.d)]) [.loc S.length] = some (.lst (srtD (L.map Th.d))) := by
      have : lstD (S ++ [O.lst (L.map Th.d)]) (.loc S.length) = some (L.map Th.d) := by simp [lstD, der, e1]
      simp only [sortTD, this]
      rw [if_pos]
      rw [List.all_eq_true]
      intro d hd
      obtain ⟨t, _, e⟩ := List.mem_map.mp hd
      subst e
      cases t <;> rfl
    obtain ⟨L', eL, pL⟩ := perm_map' (srtD_perm (l := L.map Th.d)) L rfl
    simp [hs]
    rw [eL]
    refine ⟨gc_app, los_th, L', rfl, by rw [pL.length_eq]; omega, fun t => ?_⟩
    rw [pL.mem_iff, hi t]
    constructor
    · rintro ⟨i, j, _, c, e, x, hij, hc, he, hx, et⟩
      subst et
      exact ⟨by simp, i, j, c, e, rfl, rfl, hij, hc, he, hx⟩
    · rintro ⟨hne, hj⟩
      cases t with
      | clear => exact absurd rfl hne
      | clash a b x =>
        obtain ⟨i, j, c, e, e1, e2, hij, hc, he, hx⟩ := hj
        subst e1 e2
        exact ⟨i, j, by have := (List.getElem?_eq_some_iff.mp he).1; omega, c, e, x, hij, hc, he, hx, rfl⟩
end K35

namespace K35
open PySem PySem.Spec PyProof.Rows L2 Mi
variable {S T : Sto} {N : Nat}
instance : Bd 11 64 := ⟨by unfold Sm; decide⟩
instance : Bd 13 64 := ⟨by unfold Sm; decide⟩
instance : Bd 90 64 := ⟨by unfold Sm; decide⟩
theorem los_cl {n : Nat} {g : List Cl} : D.los n (g.map Cl.d) := by
  induction g with
  | nil => trivial
  | cons a c ih => exact ⟨⟨trivial, trivial, trivial, trivial, trivial, trivial⟩, ih⟩
theorem dk_app1 {M : Nat} {l : List Cl} {S : Sto} {c : Cl} (h : DkP M (T ++ [.lst (l.map Cl.d)]) S) (hl : l.length ≤ 1000) : ∃ S', appD S (.loc (T.length + 2)) [c.d] = some (.non, S') ∧ DkP M (T ++ [.lst ((l ++ [c]).map Cl.d)]) S' := by
  have e6 : S[T.length + 2]? = some (.lst (l.map Cl.d)) := dk_at h (by simp)
  refine ⟨_, app_loc e6 (by simp; omega), ?_⟩
  have h7 := dk_setT h (k := T.length) (o := .lst (l.map Cl.d ++ [c.d]))
  have : (T ++ [O.lst (l.map Cl.d)]).set T.length (.lst (l.map Cl.d ++ [c.d])) = T ++ [.lst ((l ++ [c]).map Cl.d)] := by
    simp [List.set_append]
  rw [this] at h7
  exact h7
theorem woven_ok {st : Int} (h : DkP N T S) (hN : N + 200 ≤ 1000000000) (t0 : 0 ≤ st) (t1 : st ≤ 99) :
    Ens (m__law_woven [.loc 1, .int st] S) fun a S' => ∃ l : List Cl, a = .lst (l.map Cl.d) ∧ (∀ c ∈ l, c.Ok) ∧ l.length ≤ 13 ∧ DkP (N + 200) T S' := by
  refine ens_gcF ?_
  have hl := dk_len h
  simp [m__law_woven, b__law_woven, startE]
  refine (draw_ok h (by omega) (by decide) (Bd.up inferInstance (by decide))).mono ?_
  rintro _ S1 ⟨w, ha, hw0, hw1, h1⟩
  subst ha
  have hl1 := dk_len h1
  have bw : Bd (12 + w) 64 := bd_lt (by omega) (by omega)
  simp [hl1, -EnsS_sIf]
  refine (draw_ok (dk_push (o := .lst []) h1) (by omega) (by decide) (Bd.up inferInstance (by decide))).mono ?_
  rintro _ S2 ⟨m, ha, hm0, hm1, h2⟩
  subst ha
  simp [-EnsS_sIf]
  refine ⟨by omega, ?_⟩
  refine for_inv (fun k env S' => ∃ (l : List Cl) (x4 x5 x6 x7 : Option D), env = [some (.loc 1), some (.int st), some (.int (12 + w)), some (.loc (T.length + 2)), x4, x5, x6, x7] ∧ (∀ c ∈ l, c.Ok ∧ c.n ≤ 1000000 ∧ c.s = 12 + w ∧ c.f ≤ 2000) ∧ l.length = k ∧ DkP (N + 2 + k * 6) (T ++ [.lst (l.map Cl.d)]) S') _ 0 _ _
    ⟨[], none, none, none, none, rfl, by simp, rfl, by simpa using h2⟩ (fun _ _ _ _ _ _ => trivial) (fun i d' env S' hk hd' hi => ?_) (fun env S' hi => ?_)
  · obtain ⟨l, x4, x5, x6, x7, e, hok, hlen, h3⟩ := hi
    rw [show i - 0 = i from rfl] at hd'
    obtain ⟨hi2, e2⟩ := rng_get hd'
    have hi11 : i < 11 := by omega
    subst e e2
    simp
    refine (draw_ok h3 (by omega) (by decide) (Bd.up inferInstance (by decide))).mono ?_
    rintro _ S4 ⟨v, ha, hv0, hv1, h4⟩
    subst ha
    try simp
    refine (pickL_ok h4 (by omega) (by simp) (by simp)).mono ?_
    rintro a S5 ⟨ha, h5⟩
    have ea : ∃ n : Int, a = .int n ∧ 1 ≤ n ∧ n ≤ 1000000 := by
      simp at ha hv1
      rcases ha with e | e | e | e | e <;> subst e <;> exact ⟨_, rfl, by omega, by omega⟩
    obtain ⟨n, ea, n0, n1⟩ := ea
    subst ea
    have e5 : S5[T.length + 2]? = some (.lst (l.map Cl.d)) := dk_at h5 (by simp)
    simp [isT_loc e5]
    refine (draw_ok h5 (by omega) (by decide) (Bd.up inferInstance (by decide))).mono ?_
    rintro _ S6 ⟨y, ha, hy0, hy1, h6⟩
    subst ha
    have by_ : Bd y 64 := bd_lt (by omega) (by omega)
    try simp
    refine (dart_ok h6 (by omega)).mono ?_
    rintro _ S7 ⟨u, ha, hu, h7⟩
    subst ha
    have hyw : 0 ≤ (12 + w) * y ∧ (12 + w) * y ≤ 202 := by
      have : y = 0 ∨ y = 1 ∨ y = 2 := by omega
      rcases this with q | q | q <;> subst q <;> omega
    obtain ⟨S8, e8, h8⟩ := dk_app1 (c := ⟨st, 1000 + i + (12 + w) * y, n, 12 + w, u⟩) h7 (by omega)
    try simp
    rw [e8]
    refine ⟨l ++ [⟨st, 1000 + i + (12 + w) * y, n, 12 + w, u⟩], ?_, by simp; exact hlen, h8.up (by omega)⟩
    rw [List.forall_mem_append]
    refine ⟨hok, fun c hc => ?_⟩
    simp at hc
    subst hc
    exact ⟨⟨t0, t1, by simp only; omega, by simp only; omega, n0, by simp only; omega, by simp only; omega, by simp only; omega, hu.1, hu.2⟩, n1, rfl, by simp only; omega⟩
  · obtain ⟨l, x4, x5, x6, x7, e, hok, hlen, h3⟩ := hi
    subst e
    rw [rangeD_length] at hlen h3
    have hm12 : (0 + (1 + m).toNat) ≤ 11 ∧ 1 ≤ 0 + (1 + m).toNat := by omega
    try simp only [then_nx, EnsS_sSeq]
    rw [EnsS_sIf]
    have fin : ∀ (l : List Cl) (S' : Sto), (∀ c ∈ l, c.Ok) → l.length ≤ 13 → DkP (N + 180) (T ++ [.lst (l.map Cl.d)]) S' → ∃ x, S'[T.length + 2]? = some (.lst x) ∧ S.length ≤ T.length + 2 ∧ gcOk S S' ∧ D.los S.length x ∧ ∃ l : List Cl, x = l.map Cl.d ∧ (∀ c ∈ l, c.Ok) ∧ l.length ≤ 13 ∧ DkP (N + 200) T (S'.take S.length) := fun l S' hk hl' hd => by
      have hg := dk_gc h hd
      exact ⟨_, dk_at hd (by simp), by omega, hg.1, los_cl, l, rfl, hk, hl', hg.2.up (by omega)⟩
    simp
    refine (draw_ok h3 (by omega) (by decide) (Bd.up inferInstance (by decide))).mono ?_
    rintro _ S4 ⟨v, ha, hv0, hv1, h4⟩
    subst ha
    simp
    refine ⟨fun hv => ?_, fun hv => fin l S4 (fun c hc => (hok c hc).1) (by omega) (h4.up (by omega))⟩
    have hne : l ≠ [] := fun z => by rw [z] at hlen; simp at hlen; omega
    refine (pickK_ok (l := l.map Cl.d) h4 (by simp) (by omega) (by simpa using hne) (by simp; omega)).mono ?_
    rintro a S5 ⟨ha, h5⟩
    obtain ⟨c, hc, ea⟩ := List.mem_map.mp ha
    subst ea
    obtain ⟨oc, cn, cs, cf⟩ := hok c hc
    simp
    refine (pickL_ok h5 (by omega) (by simp) (by simp)).mono ?_
    rintro a S6 ⟨ha, h6⟩
    have ea : ∃ n : Int, a = .int n ∧ 0 ≤ n ∧ n ≤ 1 := by
      simp at ha
      rcases ha with e | e <;> subst e <;> exact ⟨_, rfl, by omega, by omega⟩
    obtain ⟨d, ea, d0, d1⟩ := ea
    subst ea
    have bcn : Bd (c.n - d) 64 := bd_lt (by have := oc.n0; omega) (by omega)
    have e6 : S6[T.length + 2]? = some (.lst (l.map Cl.d)) := dk_at h6 (by simp)
    simp [isT_loc e6]
    refine (draw_ok h6 (by omega) (by decide) (Bd.up inferInstance (by decide))).mono ?_
    rintro _ S7 ⟨y, ha, hy0, hy1, h7⟩
    subst ha
    try simp
    refine (pickL_ok h7 (by omega) (by simp) (by simp)).mono ?_
    rintro a S8 ⟨ha, h8⟩
    have ea : ∃ n : Int, a = .int n ∧ 1 ≤ n ∧ n ≤ 2 := by
      simp at ha
      rcases ha with e | e <;> subst e <;> exact ⟨_, rfl, by omega, by omega⟩
    obtain ⟨g, ea, g0, g1⟩ := ea
    subst ea
    have bg : Bd g 64 := bd_lt (by omega) (by omega)
    have hp0 : 0 ≤ (c.n - d) * (12 + w) := Int.mul_nonneg (by have := oc.n0; omega) (by omega)
    have hp1 : (c.n - d) * (12 + w) ≤ 1000000 * 102 := Int.mul_le_mul (by omega) (by omega) (by omega) (by decide)
    have hwg : 12 ≤ (12 + w) * g ∧ (12 + w) * g ≤ 204 := by
      have : g = 1 ∨ g = 2 := by omega
      rcases this with q | q <;> subst q <;> omega
    obtain ⟨S9, e9, h9⟩ := dk_app1 (c := ⟨st, c.f + (c.n - d) * (12 + w), 1 + y, (12 + w) * g, 3⟩) h8 (by omega)
    simp
    rw [e9]
    refine fin (l ++ [⟨st, c.f + (c.n - d) * (12 + w), 1 + y, (12 + w) * g, 3⟩]) S9 ?_ (by simp; omega) (h9.up (by omega))
    rw [List.forall_mem_append]
    refine ⟨fun c hc => (hok c hc).1, fun e he => ?_⟩
    simp at he
    subst he
    exact ⟨t0, t1, by have := oc.f0; simp only; omega, by simp only; omega, by simp only; omega, by simp only; omega, by simp only; omega, by simp only; omega, by simp, by simp⟩
end K35

namespace K35
open PySem PySem.Spec PyProof.Rows L2 Mi
variable {S T : Sto} {N : Nat}
theorem shufG_ok {α : Type} {f : α → D} (hlos : ∀ (n : Nat) (g : List α), D.los n (g.map f)) {d : D} {g : List α} (hd0 : lstR [d] S = .ok (.loc S.length) (S ++ [.lst (g.map f)])) (h : DkP N T S) (hN : N + 1000 ≤ 1000000000) (hg : g.length ≤ 1000) :
    Ens (m__law_shuffled [.loc 1, d] S) fun a S' => ∃ g' : List α, a = .lst (g'.map f) ∧ g'.Perm g ∧ DkP (N + g.length) T S' := by
  have loop : ∀ (n : Nat) (lg fg : List α) (M : Nat) (S1 : Sto), lg.length = n → M + n ≤ 1000000000 → lg.length + fg.length ≤ 1000 → DkP M (T ++ [.lst (lg.map f), .lst (fg.map f)]) S1 →
      EnsS (sWhile (bVal (mOp ne0D (mVar 2) (mLst aNil))) (sDrop (mM "list" appD (mVar 3) (aCons (mM "list" popD (mVar 2) (aCons (mCall 2 m__law_draw (aCons (mVar 0) (aCons (mB lenD (aCons (mVar 2) aNil)) aNil))) aNil)) aNil)))
        [some (.loc 1), some d, some (.loc (T.length + 2)), some (.loc (T.length + 3))] S1) fun r => ∃ (S2 : Sto) (g' : List α), r = .nx [some (.loc 1), some d, some (.loc (T.length + 2)), some (.loc (T.length + 3))] S2 ∧ g'.Perm (lg ++ fg) ∧ DkP (M + n) (T ++ [.lst [], .lst (g'.map f)]) S2 := by
    intro n
    induction n with
    | zero =>
      intro lg fg M S1 hn hM hl hd
      have e : lg = [] := List.length_eq_zero_iff.mp hn
      subst e
      have e1 : S1[T.length + 2]? = some (.lst []) := dk_at hd (by simp)
      rw [EnsS_while]
      simp [ne0D_loc e1]
      exact ⟨fg, .rfl, hd⟩
    | succ n ih =>
      intro lg fg M S1 hn hM hl hd
      have hne : lg ≠ [] := fun z => by rw [z] at hn; cases hn
      have e1 : S1[T.length + 2]? = some (.lst (lg.map f)) := dk_at hd (by simp)
      have e2 : S1[T.length + 3]? = some (.lst (fg.map f)) := dk_at hd (k := T.length + 1) (by simp)
      rw [EnsS_while]
      simp [ne0D_loc e1, hne, isT_loc e1, isT_loc e2, lenD_loc e1]
      refine (draw_ok hd (by omega) (by omega) (bd_lt (n := 1000) (by omega) (by omega))).mono ?_
      rintro _ S3 ⟨v, ha, hv0, hv1, h3⟩
      subst ha
      have f1 : S3[T.length + 2]? = some (.lst (lg.map f)) := dk_at h3 (by simp)
      have f2 : S3[T.length + 3]? = some (.lst (fg.map f)) := dk_at h3 (k := T.length + 1) (by simp)
      have hv : v.toNat < lg.length := by omega
      have hp := popI_ok (v := v.toNat) (d := f lg[v.toNat]) f1 (by rw [List.getElem?_map, List.getElem?_eq_getElem hv]; rfl) (by omega)
      rw [show ((v.toNat : Nat) : Int) = v by omega] at hp
      have hS4 := dk_setT h3 (k := T.length) (o := .lst ((lg.eraseIdx v.toNat).map f))
      have f3 : (S3.set (T.length + 2) (.lst ((lg.eraseIdx v.toNat).map f)))[T.length + 3]? = some (.lst (fg.map f)) := by
        rw [List.getElem?_set_ne (by omega)]; exact f2
      have er : (lg.map f).eraseIdx v.toNat = (lg.eraseIdx v.toNat).map f := by
        rw [erase_map]
      rw [er] at hp
      simp [hp, app_loc f3 (show (fg.map f).length < 16777216 by simp; omega)]
      have hS5 := dk_setT hS4 (k := T.length + 1) (o := .lst (fg.map f ++ [f lg[v.toNat]]))
      have eT : ((T ++ [O.lst (lg.map f), O.lst (fg.map f)]).set T.length (.lst ((lg.eraseIdx v.toNat).map f))).set (T.length + 1) (.lst (fg.map f ++ [f lg[v.toNat]])) = T ++ [.lst ((lg.eraseIdx v.toNat).map f), .lst ((fg ++ [lg[v.toNat]]).map f)] := by
        simp [List.set_append]
      rw [eT] at hS5
      have hpl : (lg[v.toNat] :: lg.eraseIdx v.toNat).Perm lg := erase_perm _ _ hv
      have hle : (lg.eraseIdx v.toNat).length = n := by rw [List.length_eraseIdx_of_lt hv]; omega
      refine (ih (lg.eraseIdx v.toNat) (fg ++ [lg[v.toNat]]) (M + 1) _ hle (by omega) (by simp; omega) hS5).mono ?_
      rintro r ⟨S6, g', e, hp', h6⟩
      refine ⟨S6, e, g', hp'.trans ?_, h6.up (by omega)⟩
      have q1 : (lg.eraseIdx v.toNat ++ (fg ++ [lg[v.toNat]])).Perm (lg[v.toNat] :: lg.eraseIdx v.toNat ++ fg) := by
        rw [← List.append_assoc]
        exact List.perm_append_comm
      exact q1.trans (hpl.append_right fg)
  refine ens_gcF ?_
  have hl := dk_len h
  have h1 := dk_push (o := .lst []) (dk_push (o := .lst (g.map f)) h)
  simp [m__law_shuffled, b__law_shuffled, startE, hd0, hl]
  rw [List.append_assoc] at h1
  refine (loop g.length g [] N _ rfl (by omega) (by simpa using hg) (by simpa using h1)).mono ?_
  rintro r ⟨S2, g', e, hp, h2⟩
  subst e
  have e2 : S2[T.length + 3]? = some (.lst (g'.map f)) := dk_at h2 (k := T.length + 1) (by simp)
  simp
  have hg' := dk_gc h h2
  rw [hl] at hg'
  exact ⟨_, e2, hg'.1, hlos _ _, g', rfl, by simpa using hp, hg'.2⟩
end K35

namespace K35
open PySem PySem.Spec PyProof.Rows L2 Mi
variable {S T : Sto} {N : Nat}
def TnP (ss : List Int) (way : Int) (x4 : Option D) (M : Nat) (T : Sto) (r : RS) : Prop := ∃ (l : List Cl) (S' : Sto), r = .nx [some (.loc 1), some (.int way), some (.lst (ss.map D.int)), some (.loc (T.length + 2)), x4] S' ∧ (∀ c ∈ l, c.Ok) ∧ l.length ≤ M ∧ DkP (M * 100) (T ++ [.lst (l.map Cl.d)]) S'
theorem book_ok (h : DkP N T S) (hN : N + 3000 ≤ 1000000000) :
    Ens (m__law_book [.loc 1] S) fun a S' => ∃ l : List Cl, a = bk l ∧ Bk l ∧ l.length ≤ 20 ∧ DkP (N + 2000) T S' := by
  refine ens_gc ?_
  have hl := dk_len h
  have fin : ∀ (l l' : List Cl) (S' : Sto) (E : Sto), (∀ c ∈ l, c.Ok) → l.length ≤ 20 → l'.Perm l → DkP (N + 2000) (T ++ E) S' → gcOk S S' ∧ D.los S.length (l'.map Cl.d) ∧ ∃ l : List Cl, D.tup (l'.map Cl.d) = bk l ∧ Bk l ∧ l.length ≤ 20 ∧ DkP (N + 2000) T (S'.take S.length) := fun l l' S' E hk hl' hp hd => by
    have hg := dk_gc h hd
    exact ⟨hg.1, los_cl, l', rfl, ⟨fun c hc => hk c (hp.mem_iff.mp hc), by rw [hp.length_eq]; omega⟩, by rw [hp.length_eq]; exact hl', hg.2⟩
  simp [m__law_book, b__law_book, startE, rngR_ok]
  refine (draw_ok h (by omega) (by decide) (Bd.up inferInstance (by decide))).mono ?_
  rintro _ S1 ⟨way, ha, hw0, hw1, h1⟩
  subst ha
  refine (draw_ok h1 (by omega) (by decide) (Bd.up inferInstance (by decide))).mono ?_
  rintro _ S2 ⟨v, ha, hv0, hv1, h2⟩
  subst ha
  simp [-EnsS_sIf]
  refine (pickL_ok h2 (by omega) (by simp) (by simp)).mono ?_
  rintro a S3 ⟨ha, h3⟩
  have ea : ∃ ss : List Int, a = .lst (ss.map D.int) ∧ ss ≠ [] ∧ ss.length ≤ 100 ∧ ∀ t ∈ ss, 0 ≤ t ∧ t ≤ 99 := by
    simp at ha
    rcases ha with e | e | e | e <;> subst e
    · exact ⟨[7], rfl, by simp, by simp, by simp⟩
    · exact ⟨[0, 99], rfl, by simp, by simp, by simp⟩
    · refine ⟨(List.range 100).map fun (i : Nat) => 0 + (i : Int), by unfold rangeD; rw [List.map_map]; rfl, by simp, by simp, fun t ht => ?_⟩
      obtain ⟨i, hi, e⟩ := List.mem_map.mp ht
      have := List.mem_range.mp hi
      omega
    · exact ⟨[v], rfl, by simp, by simp, by simp; omega⟩
  obtain ⟨ss, ea, hs, hsl, hss⟩ := ea
  subst ea
  have hl3 := dk_len h3
  have h4 := dk_push (o := .lst []) h3
  simp [-EnsS_sIf, hl3]
  refine ⟨fun hw => ?_, fun hw => ?_⟩
  · refine (pickL_ok h4 (by omega) (by simpa using hs) (by simp; omega)).mono ?_
    rintro a S5 ⟨ha, h5⟩
    obtain ⟨st, hst, ea⟩ := List.mem_map.mp ha
    subst ea
    obtain ⟨t0, t1⟩ := hss st hst
    try simp
    refine (woven_ok h5 (by omega) t0 t1).mono ?_
    rintro _ S6 ⟨l, ea, hok, hlen, h6⟩
    subst ea
    try simp
    refine (shufG_ok (f := Cl.d) (fun n g => los_cl) (d := .lst (l.map Cl.d)) rfl h6 (by omega) (by omega)).mono ?_
    rintro _ S7 ⟨l', ea, hp, h7⟩
    subst ea
    try simp
    exact fin l l' S7 _ hok (by omega) hp (h7.up (by omega))
  · refine (draw_ok h4 (by omega) (by decide) (Bd.up inferInstance (by decide))).mono ?_
    rintro _ S5 ⟨u, ha, hu0, hu1, h5⟩
    subst ha
    try simp [-EnsS_sIf]
    refine (pickL_ok h5 (by omega) (by simp) (by simp)).mono ?_
    rintro a S6 ⟨ha, h6⟩
    have ea : ∃ n : Int, a = .int n ∧ 0 ≤ n ∧ n ≤ 12 := by
      simp at ha
      rcases ha with e | e | e | e <;> subst e <;> exact ⟨_, rfl, by omega, by omega⟩
    obtain ⟨n, ea, n0, n1⟩ := ea
    subst ea
    simp [-EnsS_sIf]
    refine ⟨by omega, ?_⟩
    refine for_inv (fun k env S' => ∃ (l : List Cl) (x4 : Option D), env = [some (.loc 1), some (.int way), some (.lst (ss.map D.int)), some (.loc (T.length + 2)), x4] ∧ (∀ c ∈ l, c.Ok) ∧ l.length ≤ k ∧ DkP (N + 10 + k * 100) (T ++ [.lst (l.map Cl.d)]) S') _ 0 _ _
      ⟨[], none, rfl, by simp, by simp, by simpa using h6.up (by omega)⟩ (fun _ _ _ _ _ _ => trivial) (fun i d' env S' hk hd' hi => ?_) (fun env S' hi => ?_)
    · obtain ⟨l, x4, e, hok, hlen, h7⟩ := hi
      rw [show i - 0 = i from rfl] at hd'
      obtain ⟨hi2, e2⟩ := rng_get hd'
      have hi11 : i < 12 := by omega
      subst e e2
      have addc : ∀ (c : Cl) (M : Nat) (S : Sto), c.Ok → M ≤ N + 10 + (i + 1) * 100 → DkP M (T ++ [.lst (l.map Cl.d)]) S → Ens (R.of (appD S (.loc (T.length + 2)) [c.d]) S) fun z _ => ∃ l : List Cl, (∀ c ∈ l, c.Ok) ∧ l.length ≤ i + 1 ∧ DkP (N + 10 + (i + 1) * 100) (T ++ [.lst (l.map Cl.d)]) z.2 := fun c M S hc hM hd => by
        obtain ⟨S9, e9, h9⟩ := dk_app1 (c := c) hd (by omega)
        rw [e9]
        exact ⟨l ++ [c], by rw [List.forall_mem_append]; simp; exact ⟨hok, hc⟩, by simp; omega, h9.up hM⟩
      have claim : ∀ (M : Nat) (S : Sto), M ≤ N + 10 + i * 100 + 5 → DkP M (T ++ [.lst (l.map Cl.d)]) S → Ens (m__law_pick [.loc 1, .lst (ss.map D.int)] S) fun a S => Ens (m__law_claim [.loc 1, a] S) fun c S => Ens (R.of (appD S (.loc (T.length + 2)) [c]) S) fun z _ => ∃ l : List Cl, (∀ c ∈ l, c.Ok) ∧ l.length ≤ i + 1 ∧ DkP (N + 10 + (i + 1) * 100) (T ++ [.lst (l.map Cl.d)]) z.2 := fun M S hM hd => by
        refine (pickL_ok hd (by omega) (by simpa using hs) (by simp; omega)).mono ?_
        rintro a S5 ⟨ha, h5⟩
        obtain ⟨st, hst, ea⟩ := List.mem_map.mp ha
        subst ea
        obtain ⟨t0, t1⟩ := hss st hst
        refine (lclaim_ok h5 (by omega) t0 t1).mono ?_
        rintro _ S6 ⟨c, ea, hc, h6⟩
        subst ea
        exact addc c _ S6 hc (by omega) h6
      have e7 : S'[T.length + 2]? = some (.lst (l.map Cl.d)) := dk_at h7 (by simp)
      by_cases hne : l = []
      · simp [ne0D_loc e7, hne, isT_loc e7]
        exact claim _ S' (by omega) h7
      · simp [ne0D_loc e7, hne]
        refine (draw_ok h7 (by omega) (by decide) (Bd.up inferInstance (by decide))).mono ?_
        rintro _ S8 ⟨x, ha, hx0, hx1, h8⟩
        subst ha
        have e8 : S8[T.length + 2]? = some (.lst (l.map Cl.d)) := dk_at h8 (by simp)
        simp [ne0D_loc e8, hne, isT_loc e8]
        refine ⟨fun _ => ?_, fun _ => ?_⟩
        · refine (pickK_ok (l := l.map Cl.d) h8 (by simp) (by omega) (by simpa using hne) (by simp; omega)).mono ?_
          rintro a S9 ⟨ha, h9⟩
          obtain ⟨c', hc', ea⟩ := List.mem_map.mp ha
          subst ea
          refine (meeting_ok h9 (by omega) (hok c' hc')).mono ?_
          rintro _ S10 ⟨c2, ea, hc2, h10⟩
          subst ea
          exact addc c2 _ S10 hc2 (by omega) h10
        · refine (draw_ok h8 (by omega) (by decide) (Bd.up inferInstance (by decide))).mono ?_
          rintro _ S9 ⟨y, ha, hy0, hy1, h9⟩
          subst ha
          have e9 : S9[T.length + 2]? = some (.lst (l.map Cl.d)) := dk_at h9 (by simp)
          simp [isT_loc e9]
          refine ⟨fun _ => ?_, fun _ => ?_⟩
          · refine (pickK_ok (l := l.map Cl.d) h9 (by simp) (by omega) (by simpa using hne) (by simp; omega)).mono ?_
            rintro a S10 ⟨ha, h10⟩
            obtain ⟨c', hc', ea⟩ := List.mem_map.mp ha
            subst ea
            exact addc c' _ S10 (hok c' hc') (by omega) h10
          · exact claim _ S9 (by omega) h9
    · obtain ⟨l, x4, e, hok, hlen, h7⟩ := hi
      subst e
      rw [rangeD_length] at hlen h7
      simp
      have e7 : S'[T.length + 2]? = some (.lst (l.map Cl.d)) := dk_at h7 (by simp)
      have hd0 : lstR [.loc (T.length + 2)] S' = .ok (.loc S'.length) (S' ++ [.lst (l.map Cl.d)]) := by
        simp [lstR, seqD, der, e7, R.new]
      refine (shufG_ok (f := Cl.d) (fun n g => los_cl) hd0 h7 (by omega) (by omega)).mono ?_
      rintro _ S8 ⟨l', ea, hp, h8⟩
      subst ea
      simp
      exact fin l l' S8 _ hok (by omega) hp (h8.up (by omega))
end K35

namespace K35
open PySem PySem.Spec PyProof.Rows L2 Mi
variable {S T : Sto} {N : Nat}
theorem od_th4 {w : String} {a b c : Int} : od (.tup [.str (PySem.Str.ofString w), .int a, .int b, .int c]) = true := od_tup.mpr ⟨fun d hd => by
  simp at hd
  rcases hd with e | e | e | e <;> subst e <;> first | exact sh_ofString _ | rfl, by simp⟩
theorem near_ok {l : List Cl} {a b x : Int} (h : DkP N T S) (hN : N + 30 ≤ 1000000000) (hb : Bk l) (hl : l.length ≤ 20) (hc : Clash l a b x) (hx : x.natAbs < 2 ^ 1000) :
    Ens (m__law_near [.loc 1, bk l, Th.d (.clash a b x)] S) fun r S' => od r = true ∧ DkP (N + 30) T S' := by
  obtain ⟨i, j, c, e, e1, e2, hij, hi, hj, _⟩ := hc
  subst e1 e2
  have hjl := (List.getElem?_eq_some_iff.mp hj).1
  have oc := hb.1 c (List.mem_of_getElem? hi)
  have oe := hb.1 e (List.mem_of_getElem? hj)
  obtain ⟨b1, b2, b3⟩ := oc.bd
  obtain ⟨b4, b5, b6⟩ := oe.bd
  have g0 : 1 ≤ g2 c.s e.s := by
    have := g2_pos (x := c.s) (show 0 < e.s by have := oe.s0; omega)
    omega
  obtain ⟨p, r, _, hp, hr, _, _, _, hrb⟩ := g2_parts oc.s0 oe.s0
  have bg : Bd (g2 c.s e.s) 64 := by
    obtain ⟨p', r', _, hp', _, hp1, _, _, _⟩ := g2_parts oc.s0 oe.s0
    have : g2 c.s e.s ≤ c.s := by
      have := Int.mul_le_mul_of_nonneg_left hp1 (show 0 ≤ g2 c.s e.s by omega)
      omega
    exact bd_lt (by omega) (by have := oc.s1; omega)
  have inn : innd 5 (Th.d (.clash i j x)) = true := by
    simp [Th.d, innd, st_clash, hx]
    exact ⟨by decide +kernel, Nat.lt_of_lt_of_le (show i < 2 ^ 5 by omega) (Nat.pow_le_pow_right (by decide) (by decide)), Nat.lt_of_lt_of_le (show j < 2 ^ 5 by omega) (Nat.pow_le_pow_right (by decide) (by decide))⟩
  have gt : g2 c.s e.s ≠ 0 := by omega
  have bm : Bd (c.s.fdiv (g2 c.s e.s)) 64 := by
    rw [Int.fdiv_eq_ediv_of_nonneg _ (by omega)]
    exact bd_lt (by have := Int.ediv_nonneg (show 0 ≤ c.s by have := oc.s0; omega) (show 0 ≤ g2 c.s e.s by omega); omega) (by have := Int.ediv_le_self (g2 c.s e.s) (show 0 ≤ c.s by have := oc.s0; omega); have := oc.s1; omega)
  simp [m__law_near, b__law_near, startE, Th.d]
  simp [bk, atI_get (mapC hi), atI_get (mapC hj)]
  refine (euclid_ok oc.s0 oe.s0 (by have := oc.s1; omega) (by have := oe.s1; omega)).mono ?_
  rintro _ S1 ⟨u, e1, e2, ⟨v, huv⟩, bu⟩
  subst e1 e2
  simp [atI_get (mapC hi), atI_get (mapC hj), fdivD_int, gt]
  refine (draw_ok h (by omega) (by omega) (bd_lt (n := 64) (by omega) (by omega) |>.up (by decide))).mono ?_
  rintro _ S2 ⟨y, ha, _, _, h2⟩
  subst ha
  refine (draw_ok h2 (by omega) (by decide) (Bd.up inferInstance (by decide))).mono ?_
  rintro _ S3 ⟨z, ha, _, _, h3⟩
  subst ha
  refine (bent_ok 5 _ _ S3 h3 (by omega) inn).mono ?_
  rintro w S4 ⟨hw, h4⟩
  refine (pickL_ok h4 (by omega) (by simp) (by simp)).mono ?_
  rintro q S5 ⟨ha, h5⟩
  refine ⟨?_, h5.up (by omega)⟩
  simp at ha
  rcases ha with e | e | e | e | e | e | e | e | e | e | e | e | e <;> subst e <;> first | exact hw | simp [od, ods, st_clash, st_clear]
theorem com_bd {a b : Cl} {x : Int} (ha : a.Ok) (hb : b.Ok) (h : com a b = some x) : 0 ≤ x ∧ x.natAbs < 2 ^ 1000 := by
  by_cases ht : a.t = b.t
  · have := com_least ha hb ht
    rw [h] at this
    have h1 := this.1.1
    have h2 := this.1.2.1
    have := ha.f0
    have := ha.f1
    have h3 : (a.n - 1) * a.s ≤ 1000000000 * 1000000 := Int.mul_le_mul (by have := ha.n1; omega) ha.s1 (by have := ha.s0; omega) (by decide)
    unfold Cl.last at h2
    refine ⟨by omega, Nat.lt_of_lt_of_le (show x.natAbs < 2 ^ 60 by omega) (Nat.pow_le_pow_right (by decide) (by decide))⟩
  · rw [com_none ht] at h
    cases h
theorem fit_fnd {l : List Cl} {st x : Int} {n : Nat} (h : l.length ≤ 1000) : fit (n + 2) (.tup (fnd l st x)) = true := by
  have := fnd_len (l := l) (st := st) (x := x)
  simp [fit]
  refine ⟨fun d hd => ?_, by omega⟩
  unfold fnd at hd
  obtain ⟨p, _, e⟩ := List.mem_filterMap.mp hd
  split at e
  · cases e; rfl
  · cases e
instance : Bd 6 64 := ⟨by unfold Sm; decide⟩
instance : Bd 100 64 := ⟨by unfold Sm; decide⟩
theorem foundright_ok {l : List Cl} (h : DkP N T S) (hN : N + 200 ≤ 1000000000) (hb : Bk l) :
    Ens (m__law_is_found_right [.loc 1, bk l] S) fun a S' => a = .bl true ∧ DkP (N + 200) T S' := by
  simp [m__law_is_found_right, b__law_is_found_right, startE, -Ens_mIf]
  refine for_inv (fun k env S' => DkP (N + k * 12) T S' ∧ ∃ (r : List (Option D)), env = some (.loc 1) :: some (bk l) :: r ∧ r.length = 9) _ 0 _ _ ⟨by simpa using h, _, rfl, rfl⟩ (fun _ _ _ _ _ _ => trivial) (fun i d' env S' hk hd' hi => ?_) (fun env S' hi => ?_)
  · obtain ⟨h1, r, e, hr⟩ := hi
    rw [show i - 0 = i from rfl] at hd'
    obtain ⟨hi2, e2⟩ := rng_get hd'
    try simp at hi2
    subst e e2
    match r, hr with
    | [x2, x3, x4, x5, x6, x7, x8, x9, x10], _ =>
    simp [-Ens_mIf]
    refine Ens.mono (P := fun a S' => ∃ c : Cl, a = c.d ∧ c.Ok ∧ DkP (N + i * 12 + 1) T S') ?_ ?_
    · simp [bk]
      refine ⟨fun hne => ?_, fun he => ?_⟩
      · refine (pick_ok h1 (by omega) (by simpa using hne) (by have := hb.2; simp; omega)).mono ?_
        rintro a S4 ⟨ha, h4⟩
        obtain ⟨c, hc, ea⟩ := List.mem_map.mp ha
        subst ea
        exact ⟨c, rfl, hb.1 c hc, h4⟩
      · refine (draw_ok h1 (by omega) (by decide) (Bd.up inferInstance (by decide))).mono ?_
        rintro _ S4 ⟨v, ha, hv0, hv1, h4⟩
        subst ha
        exact ⟨⟨v, 5, 3, 2, 0⟩, by simp, ⟨hv0, by simp only; omega, by simp, by simp, by simp, by simp, by simp, by simp, by simp, by simp⟩, h4⟩
    rintro _ S4 ⟨c, ea, oc, h4⟩
    subst ea
    obtain ⟨b1, b2, b3⟩ := oc.bd
    simp [-Ens_mIf]
    refine (draw_ok h4 (by omega) oc.n0 (Bd.up b2 (by decide))).mono ?_
    rintro _ S5 ⟨v, ha, hv0, hv1, h5⟩
    subst ha
    refine (draw_ok h5 (by omega) oc.n0 (Bd.up b2 (by decide))).mono ?_
    rintro _ S6 ⟨w, ha, hw0, hw1, h6⟩
    subst ha
    try simp [-Ens_mIf]
    refine (pickL_ok h6 (by omega) (by simp) (by simp)).mono ?_
    rintro a S7 ⟨ha, h7⟩
    have ea : ∃ k : Int, a = .int k ∧ -1 ≤ k ∧ k ≤ c.n := by
      simp at ha
      have := oc.n0
      rcases ha with e | e | e | e | e | e <;> subst e <;> exact ⟨_, rfl, by omega, by omega⟩
    obtain ⟨k, ea, k0, k1⟩ := ea
    subst ea
    have bk' : Bd k 64 := bd_lt (by omega) (by have := oc.n1; omega)
    simp [-Ens_mIf]
    refine (draw_ok h7 (by omega) oc.s0 (Bd.up b3 (by decide))).mono ?_
    rintro _ S8 ⟨y, ha, hy0, hy1, h8⟩
    subst ha
    try simp [-Ens_mIf]
    refine (pickL_ok h8 (by omega) (by simp) (by simp)).mono ?_
    rintro a S9 ⟨ha, h9⟩
    have ea : ∃ z : Int, a = .int z := by
      simp at ha
      rcases ha with e | e | e | e <;> subst e <;> exact ⟨_, rfl⟩
    obtain ⟨z, ea⟩ := ea
    subst ea
    simp [-Ens_mIf]
    generalize hx : (if 0 < c.f + k * c.s + z then c.f + k * c.s + z else 0) = x
    have hx0 : 0 ≤ x := by rw [← hx]; split <;> omega
    refine Ens.mono (P := fun a S' => ∃ st : Int, a = .int st ∧ 0 ≤ st ∧ st ≤ 99 ∧ DkP (N + i * 12 + 8) T S') ?_ ?_
    · simp
      refine (draw_ok h9 (by omega) (by decide) (Bd.up inferInstance (by decide))).mono ?_
      rintro _ S10 ⟨q, ha, hq0, hq1, h10⟩
      subst ha
      simp
      refine ⟨fun _ => ⟨oc.t0, oc.t1, h10.up (by omega)⟩, fun _ => ?_⟩
      refine (draw_ok h10 (by omega) (by decide) (Bd.up inferInstance (by decide))).mono ?_
      rintro _ S11 ⟨t, ha, ht0, ht1, h11⟩
      subst ha
      exact ⟨t, rfl, ht0, by omega, h11.up (by omega)⟩
    rintro _ S10 ⟨st, ea, p0, p1, h10⟩
    subst ea
    simp [wipeE, bk, -Ens_mIf]
    refine lc_inv (fun k acc S' => S' = S10 ∧ acc = fnd (l.take k) st x) _ 0 _ _ ⟨rfl, rfl⟩ (fun _ _ _ _ _ _ => trivial) (fun i d' acc S' hk hd' hi => ?_) (fun acc S' hi => ?_)
    · obtain ⟨e1, e2⟩ := hi
      rw [show i - 0 = i from rfl] at hd'
      obtain ⟨y, hy, e⟩ := enum_get hd'
      obtain ⟨c, hc, hm, e3⟩ := getC hy
      subst e e3 e1
      have hlt : acc.length < 16777216 := by
        have := hb.2
        have := fnd_len (l := l.take i) (st := st) (x := x)
        rw [List.length_take] at this
        rw [e2]; omega
      rw [fnd_take hc, ← e2]
      by_cases q1 : c.t = st <;> cases q2 : hasB c x <;> simp [q1, q2, hlt, Ens_is (lholds_eq (hb.1 c hm))]
    · obtain ⟨e1, e2⟩ := hi
      subst e1 e2
      rw [show l.take (0 + (enumD (l.map Cl.d)).length) = l by simp]
      have hf := fun S => find_eq (S := S) hb p0 p1 hx0
      have hs := fun S => same_ok 5 _ (fit_fnd (l := l) (st := st) (x := x) (by have := hb.2; omega)) S
      unfold bk at hf
      simp [Ens_is (hf _), Ens_is (hs _)]
      exact ⟨fun _ => h10.up (by omega), fun _ => h10.up (by omega)⟩
  · obtain ⟨h1, r, e, hr⟩ := hi
    subst e
    rw [rangeD_length] at h1
    simp
    exact h1.up (by omega)
end K35

namespace K35
open PySem PySem.Spec PyProof.Rows L2 Mi
variable {S T : Sto} {N : Nat}
theorem Th.od {t : Th} : od t.d = true := by cases t <;> simp [Th.d, Mi.od, ods, st_clash, st_clear]
theorem inn_cl {c : Cl} (h : c.Ok) : innd 2 c.d = true := by
  have p : ∀ x : Int, x.natAbs < 2 ^ 120 → x.natAbs < 2 ^ 1000 := fun x hx => Nat.lt_of_lt_of_le hx (Nat.pow_le_pow_right (by decide) (by decide))
  have h1 := p c.t (by have := h.t0; have := h.t1; omega)
  have h2 := p c.f (by have := h.f0; have := h.f1; omega)
  have h3 := p c.n (by have := h.n0; have := h.n1; omega)
  have h4 := p c.s (by have := h.s0; have := h.s1; omega)
  have h5 := p c.h (by have := h.h0; have := h.h1; omega)
  simp only [innd, List.all_cons, List.all_nil, h1, h2, h3, h4, h5, decide_true, Bool.and_self, List.length_cons, List.length_nil]
  simp
theorem inn_bk {l : List Cl} (h : Bk l) : innd 5 (bk l) = true := by
  have h2 : ∀ c ∈ l, innd 4 c.d = true := fun c hc => by
    have := inn_cl (h.1 c hc)
    simp only [innd] at this ⊢
    exact this
  unfold bk
  show ((l.map Cl.d).all (innd 4) && decide ((l.map Cl.d).length ≤ 100)) = true
  rw [Bool.and_eq_true]
  refine ⟨List.all_eq_true.mpr fun d hd => ?_, by simp; exact h.2⟩
  obtain ⟨c, hc, e⟩ := List.mem_map.mp hd
  subst e
  exact h2 c hc
theorem dk_extT {M : Nat} {X Y : List D} {S : Sto} (h : DkP M (T ++ [.lst X]) S) : DkP M (T ++ [.lst (X ++ Y)]) (S.set (T.length + 2) (.lst (X ++ Y))) := by
  have h7 := dk_setT h (k := T.length) (o := .lst (X ++ Y))
  have : (T ++ [O.lst X]).set T.length (.lst (X ++ Y)) = T ++ [.lst (X ++ Y)] := by
    simp [List.set_append]
  rw [this] at h7
  exact h7
theorem od_clear0 : od (.tup [.str (PySem.Str.ofString "clear"), .int 0]) = true := by simp [Mi.od, ods, st_clear]
theorem od_clash4 {a b c : Int} : od (.tup [.str (PySem.Str.ofString "clash"), .int a, .int b, .int c]) = true := by simp [Mi.od, ods, st_clash]
theorem law_true : ∀ ns : List Int, ns.length ≤ 63 → ∀ d, (d = D.lst (ns.map D.int) ∨ d = D.wls (ns.map D.int)) → ∃ S, m_law [d] [] = .ok (.bl true) S := by
  intro ns hns d hd
  suffices h : Ens (m_law [d] []) fun a S => a = .bl true by
    obtain ⟨a, S, e, h⟩ := h.eq
    exact ⟨S, by rw [e, h]⟩
  show Ens (gcR [] (fnP N_law.length b_law [d] [])) _
  refine ens_gc ?_
  have gc0 : ∀ S' : Sto, gcOk [] S' := fun S' => ⟨Nat.zero_le _, fun i hi => absurd hi (Nat.not_lt_zero _)⟩
  simp [b_law, startE, -Ens_mIf, -EnsS_sIf]
  refine (deck_ok ns hns d hd).mono ?_
  rintro _ S0 ⟨ha, h0⟩
  subst ha
  refine for_inv (fun k env S => (∃ T, DkP (k * 10000) T S) ∧ ∃ (l : List (Option D)), env = some d :: some (.loc 1) :: l ∧ l.length = 9) _ 0 _ _ ⟨⟨_, by simpa using h0⟩, _, rfl, rfl⟩ (fun _ _ _ _ _ _ => trivial) (fun i d' env S _ hd' hi => ?_) (fun env S hi => ?_)
  · obtain ⟨⟨T, h1⟩, l, e, hl⟩ := hi
    obtain ⟨hi4, e2⟩ := rng_get hd'
    simp at hi4
    subst e e2
    match l, hl with
    | [l2, l3, l4, l5, l6, l7, l8, l9, l10], _ =>
    simp [-Ens_mIf, -EnsS_sIf]
    refine Ens.mono (P := fun a S' => ∃ l : List Cl, a = bk l ∧ Bk l ∧ l.length ≤ 20 ∧ DkP (i * 10000 + 2000) T S') ?_ ?_
    · simp
      refine ⟨fun _ => book_ok h1 (by omega), fun _ => ?_⟩
      refine (lclaim_ok h1 (by omega) (by decide) (by decide)).mono ?_
      rintro _ S2 ⟨c, ea, oc, h2⟩
      subst ea
      try simp
      refine (pickL_ok h2 (by omega) (by simp) (by simp)).mono ?_
      rintro a S3 ⟨ha, h3⟩
      simp at ha
      rcases ha with e | e <;> subst e
      · exact ⟨[], rfl, ⟨by simp, by simp⟩, by simp, h3.up (by omega)⟩
      · exact ⟨[c], rfl, ⟨by simpa using oc, by simp⟩, by simp, h3.up (by omega)⟩
    rintro _ S2 ⟨BO, ea, bo, bl, h2⟩
    subst ea
    try simp [-Ens_mIf, -EnsS_sIf]
    refine (clashes_ok bo bl).mono ?_
    rintro _ S3 ⟨e, L, ea, hL, po⟩
    subst e ea
    try simp [-Ens_mIf, -EnsS_sIf]
    refine Ens.mono (P := fun x S' => S' = S3 ∧ ∃ t : Th, x = t.d ∧ Jud BO t) ?_ ?_
    · simp [modD_int]
      exact judge_ens bo
    rintro _ S4 ⟨e, t, ea, ht⟩
    subst e ea
    rw [EnsS_sIf]
    classical
    have hp : ∀ (x : D), od x = true → ∀ S, m__law_is_paper [.lst (L.map Th.d), x] S = .ok (.bl (decide (∃ t, thOf x = some t ∧ Jud BO t))) S := fun x hx S => ispaper_eq po (by omega) hx
    simp [-Ens_mIf, -EnsS_sIf, Ens_is (hp _ Th.od _), thOf_d, ht]
    refine (foundright_ok h2 (by omega) bo).mono ?_
    rintro _ S5 ⟨ea, h5⟩
    subst ea
    simp [-Ens_mIf, -EnsS_sIf]
    refine Ens.mono (P := fun a S' => S' = S5 ∧ od a = true) ?_ ?_
    · simp
      refine ⟨fun hne => ?_, fun _ => Th.od (t := .clear)⟩
      cases L with
      | nil => exact absurd rfl hne
      | cons t0 r => simp; exact Th.od
    rintro w0 S6 ⟨e, ow0⟩
    subst e
    try simp [-Ens_mIf, -EnsS_sIf]
    rw [addD_lst (by simp; omega)]
    have hcl : ∀ a ∈ L.map Th.d ++ [D.tup [D.str (PySem.Str.ofString "clash"), .int 0, .int 1, .int 0]], od a = true := fun a ha => by
      rcases List.mem_append.mp ha with z | z
      · obtain ⟨t, _, e⟩ := List.mem_map.mp z
        subst e
        exact Th.od
      · simp at z; subst z; exact od_clash4
    simp [-Ens_mIf, -EnsS_sIf]
    refine (pickL_ok h5 (by omega) (by simp) (by simp; omega)).mono ?_
    rintro w3 S7 ⟨hw3, h7⟩
    have ow3 := hcl w3 hw3
    refine (odd_ok (n := 2) h7 (by omega) (by simp [innd, st_clear]; decide +kernel)).mono ?_
    rintro w4 S8 ⟨ow4, h8⟩
    have hl8 := dk_len h8
    have oX : ∀ x ∈ [w0, D.tup [D.str (PySem.Str.ofString "clear")], D.tup [D.str (PySem.Str.ofString "clear"), D.int 0], w3, w4], od x = true := fun x hx => by
      simp at hx
      rcases hx with e | e | e | e | e <;> subst e
      · exact ow0
      · exact Th.od (t := .clear)
      · exact od_clear0
      · exact ow3
      · exact ow4
    generalize hX : [w0, D.tup [D.str (PySem.Str.ofString "clear")], D.tup [D.str (PySem.Str.ofString "clear"), D.int 0], w3, w4] = X at oX
    have lX : X.length = 5 := by rw [← hX]; rfl
    have h9 := dk_push (o := .lst X) h8
    have e9 : (S8 ++ [O.lst X])[T.length + 2]? = some (.lst X) := dk_at h9 (by simp)
    rw [hl8]
    refine ⟨isT_loc e9, ?_⟩
    refine lc_inv (fun k acc S' => (∀ x ∈ acc, od x = true) ∧ acc.length ≤ k ∧ DkP (i * 10000 + 3000 + k * 100) (T ++ [.lst X]) S') _ 0 _ _ ⟨by simp, by simp, by simpa using h9.up (by omega)⟩ (fun _ _ _ _ _ _ => trivial) (fun k d' acc S' hk hd' hi => ?_) (fun acc S' hi => ?_)
    · obtain ⟨hacc, hlen, h10⟩ := hi
      rw [show k - 0 = k from rfl] at hd'
      obtain ⟨hk5, e3⟩ := rng_get hd'
      subst e3
      have fin : ∀ (M : Nat) (y : D) (S : Sto), od y = true → M ≤ i * 10000 + 3000 + (k + 1) * 100 → DkP M (T ++ [.lst X]) S → acc.length < 16777216 ∧ (∀ x ∈ acc ++ [y], od x = true) ∧ (acc ++ [y]).length ≤ k + 1 ∧ DkP (i * 10000 + 3000 + (k + 1) * 100) (T ++ [.lst X]) S := fun M y S hy hM hd => by
        refine ⟨by omega, fun x hx => ?_, by simp; omega, hd.up hM⟩
        rcases List.mem_append.mp hx with z | z
        · exact hacc x z
        · simp at z; subst z; exact hy
      simp only [wipeE]
      by_cases hne : L = []
      · simp [hne]
        simp only [bk]
        simp
        exact ⟨by omega, fun x hx => by rcases hx with z | z; exact hacc x z; rw [z]; exact od_clash4, by omega, h10.up (by omega)⟩
      · simp [hne]
        refine (pickL_ok h10 (by omega) (by simpa using hne) (by simp; omega)).mono ?_
        rintro a S11 ⟨ha, h11⟩
        obtain ⟨t', ht', ea⟩ := List.mem_map.mp ha
        subst ea
        have hj := (po t').mp ht'
        cases t' with
        | clear => exact absurd rfl hj.1
        | clash a b x =>
          have hc : Clash BO a b x := hj.2
          obtain ⟨p, q, c, e, _, _, _, hp', hq', hx'⟩ := id hc
          have hxb := com_bd (bo.1 c (List.mem_of_getElem? hp')) (bo.1 e (List.mem_of_getElem? hq')) hx'
          refine (near_ok h11 (by omega) bo bl hc hxb.2).mono ?_
          rintro y S12 ⟨hy, h12⟩
          have := fin _ y S12 hy (by omega) h12
          simpa using this
    · obtain ⟨hacc, hlen, h10⟩ := hi
      rw [rangeD_length] at hlen h10
      have e10 : S'[T.length + 2]? = some (.lst X) := dk_at h10 (by simp)
      have hext : extD S' (.loc (T.length + 2)) [.lst acc] = some (.non, S'.set (T.length + 2) (.lst (X ++ acc))) := by
        simp [extD, e10]
        omega
      rw [hext]
      have h11 := dk_extT (Y := acc) h10
      have oY : ∀ x ∈ X ++ acc, od x = true := fun x hx => (List.mem_append.mp hx).elim (oX x) (hacc x)
      generalize hY : X ++ acc = Y at oY h11
      generalize S'.set (T.length + 2) (.lst Y) = S11 at h11
      have e11 : S11[T.length + 2]? = some (.lst Y) := dk_at h11 (by simp)
      have es : seqD S11 (.loc (T.length + 2)) = some Y := by simp [seqD, der, e11]
      simp [enR_loc e11, -Ens_mIf, -EnsS_sIf]
      have obk : od (bk BO) = true := innd_od 5 _ (inn_bk bo)
      have sb : ∀ (b : Bool) S, m__law_same 5 [.bl b, .bl b] S = .ok (.bl true) S := fun b S => same_ok 5 _ rfl S
      refine for_inv (fun k env S' => S' = S11 ∧ ∃ y8 y9 y10 : Option D, env = [some d, some (.loc 1), some (.int i), some (bk BO), some (.lst (L.map Th.d)), some t.d, some (.loc (T.length + 2)), l7, y8, y9, y10]) _ 0 _ _ ⟨rfl, _, _, _, rfl⟩ (fun _ _ _ _ _ hi => by rw [hi.1]; exact es) (fun k d' env S' hk hd' hi => ?_) (fun env S' hi => ?_)
      · obtain ⟨e1, y8, y9, y10, e2⟩ := hi
        rw [show k - 0 = k from rfl] at hd'
        obtain ⟨v, hv, e3⟩ := enum_get hd'
        have ov := oY v (List.mem_of_getElem? hv)
        subst e1 e2 e3
        simp [modD_int, Ens_is (bholds_od bo ov), Ens_is (hp _ ov _), Ens_is (sb _ _)]
      · obtain ⟨e1, y8, y9, y10, e2⟩ := hi
        subst e1 e2
        simp [-Ens_mIf, -EnsS_sIf]
        refine for_inv (fun k env S' => DkP (i * 10000 + 4000 + k * 100) (T ++ [.lst Y]) S' ∧ ∃ y7 y8 y9 y10 : Option D, env = [some d, some (.loc 1), some (.int i), some (bk BO), some (.lst (L.map Th.d)), some t.d, some (.loc (T.length + 2)), y7, y8, y9, y10]) _ 0 _ _ ⟨h11.up (by omega), _, _, _, _, rfl⟩ (fun _ _ _ _ _ _ => trivial) (fun k d' env S' hk hd' hi => ?_) (fun env S' hi => ?_)
        · obtain ⟨h12, y7, y8, y9, y10, e2⟩ := hi
          rw [show k - 0 = k from rfl] at hd'
          obtain ⟨hk3, e3⟩ := rng_get hd'
          subst e2 e3
          simp [-Ens_mIf, -EnsS_sIf]
          refine Ens.mono (P := fun a S' => od a = true ∧ DkP (i * 10000 + 4000 + k * 100 + 20) (T ++ [.lst Y]) S') ?_ ?_
          · simp
            exact ⟨fun _ => ⟨obk, h12.up (by omega)⟩, fun _ => (bent_ok 5 _ _ _ h12 (by omega) (inn_bk bo)).mono fun a S' ⟨q1, q2⟩ => ⟨q1, q2.up (by omega)⟩⟩
          rintro v S13 ⟨ov, h13⟩
          simp [Ens_is (isbook_od ov), Ens_is (lisbook_od ov), Ens_is (sb _ _)]
          exact ⟨fun _ => h13.up (by omega), fun _ => h13.up (by omega)⟩
        · obtain ⟨h12, y7, y8, y9, y10, e2⟩ := hi
          subst e2
          rw [rangeD_length] at h12
          exact ⟨⟨_, h12.up (by omega)⟩, _, rfl, rfl⟩
  · obtain ⟨h1, l, e, hl⟩ := hi
    subst e
    simp
    exact ⟨gc0 _, trivial⟩
end K35

set_option maxHeartbeats 0
open PySem PySem.Spec PyProof.Rows L2 Mi
namespace K35
def loose0 : List Str := ["MapError", "BadNumber", "BadBook", "is_int", "is_from", "is_between", "is_tuple", "is_word", "need_number", "MOST_STREET", "MOST_NUMBER", "MOST_STEP", "is_claim_value", "is_book_value", "need_book", "last_of", "does_hold", "part_and_share", "common_start", "least_common", "clash_of", "CLEAR", "CLASH", "is_book", "find", "judge_book", "book_holds", "_law_deck", "_law_draw", "_law_pick"]
def loose1 : List Str := ["_law_euclid", "_law_common", "_law_holds", "_law_same", "_law_shuffled", "_law_odd", "_law_bent", "_law_dart", "_law_claim", "_law_meeting", "_law_woven", "_law_book", "_law_is_integer", "_law_is_book", "_law_clashes", "_law_is_paper", "_law_near", "_law_is_found_right"]
def loose : List Str := loose0 ++ loose1
abbrev R : PySem.W.OpenRow := PySem.W.OpenLaw.row PySem.Challenge.rw_everyscale_k35_numbers_that_claims_hold
abbrev hk : PySem.W.Hook := He.hookD 4 fa fn
def ob (s : PySem.W.SharedT) : He.AlD := He.obsDG 4 fa fn (HandSHeadRun.getT s)
theorem ob_eq (s : PySem.W.SharedT) : ob s = hk.obs s.abs := He.obsDG_eq (HandSHeadRun.getT_eq s)
theorem run (w : World) : HandSHeadRun.RunEq R (PySem.W.view R.prog [53]) hk ob 14000 loose w := by
  intro os
  kernel_rfl
theorem facts {K : PySem.W.Frag} {h : Heap} {mg : Str → Option Value} (X : K.In h) (G : h.Ns mainGlobals mg) (c : He.SaysD fa fn K) : Fx K mg where
  g_is_int := ⟨_, (c.def_ 0 rfl).choose, ⟨(c.def_ 0 rfl).choose_spec, He.glo_ok X G (c.fact 0 (f := .glo "is_int") rfl)⟩⟩
  g_is_from := ⟨_, (c.def_ 1 rfl).choose, ⟨(c.def_ 1 rfl).choose_spec, He.glo_ok X G (c.fact 1 (f := .glo "is_from") rfl)⟩⟩
  g_is_between := ⟨_, (c.def_ 2 rfl).choose, ⟨(c.def_ 2 rfl).choose_spec, He.glo_ok X G (c.fact 2 (f := .glo "is_between") rfl)⟩⟩
  g_is_tuple := ⟨_, (c.def_ 3 rfl).choose, ⟨(c.def_ 3 rfl).choose_spec, He.glo_ok X G (c.fact 3 (f := .glo "is_tuple") rfl)⟩⟩
  g_is_word := ⟨_, (c.def_ 4 rfl).choose, ⟨(c.def_ 4 rfl).choose_spec, He.glo_ok X G (c.fact 4 (f := .glo "is_word") rfl)⟩⟩
  g_need_number := ⟨_, (c.def_ 5 rfl).choose, ⟨(c.def_ 5 rfl).choose_spec, He.glo_ok X G (c.fact 5 (f := .glo "need_number") rfl)⟩⟩
  g_is_claim_value := ⟨_, (c.def_ 6 rfl).choose, ⟨(c.def_ 6 rfl).choose_spec, He.glo_ok X G (c.fact 6 (f := .glo "is_claim_value") rfl)⟩⟩
  g_is_book_value := ⟨_, (c.def_ 7 rfl).choose, ⟨(c.def_ 7 rfl).choose_spec, He.glo_ok X G (c.fact 7 (f := .glo "is_book_value") rfl)⟩⟩
  g_need_book := ⟨_, (c.def_ 8 rfl).choose, ⟨(c.def_ 8 rfl).choose_spec, He.glo_ok X G (c.fact 8 (f := .glo "need_book") rfl)⟩⟩
  g_last_of := ⟨_, (c.def_ 9 rfl).choose, ⟨(c.def_ 9 rfl).choose_spec, He.glo_ok X G (c.fact 9 (f := .glo "last_of") rfl)⟩⟩
  g_does_hold := ⟨_, (c.def_ 10 rfl).choose, ⟨(c.def_ 10 rfl).choose_spec, He.glo_ok X G (c.fact 10 (f := .glo "does_hold") rfl)⟩⟩
  g_part_and_share := ⟨_, (c.def_ 11 rfl).choose, ⟨(c.def_ 11 rfl).choose_spec, He.glo_ok X G (c.fact 11 (f := .glo "part_and_share") rfl)⟩⟩
  g_common_start := ⟨_, (c.def_ 12 rfl).choose, ⟨(c.def_ 12 rfl).choose_spec, He.glo_ok X G (c.fact 12 (f := .glo "common_start") rfl)⟩⟩
  g_least_common := ⟨_, (c.def_ 13 rfl).choose, ⟨(c.def_ 13 rfl).choose_spec, He.glo_ok X G (c.fact 13 (f := .glo "least_common") rfl)⟩⟩
  g_clash_of := ⟨_, (c.def_ 14 rfl).choose, ⟨(c.def_ 14 rfl).choose_spec, He.glo_ok X G (c.fact 14 (f := .glo "clash_of") rfl)⟩⟩
  g_is_book := ⟨_, (c.def_ 15 rfl).choose, ⟨(c.def_ 15 rfl).choose_spec, He.glo_ok X G (c.fact 15 (f := .glo "is_book") rfl)⟩⟩
  g_find := ⟨_, (c.def_ 16 rfl).choose, ⟨(c.def_ 16 rfl).choose_spec, He.glo_ok X G (c.fact 16 (f := .glo "find") rfl)⟩⟩
  g_judge_book := ⟨_, (c.def_ 17 rfl).choose, ⟨(c.def_ 17 rfl).choose_spec, He.glo_ok X G (c.fact 17 (f := .glo "judge_book") rfl)⟩⟩
  g_book_holds := ⟨_, (c.def_ 18 rfl).choose, ⟨(c.def_ 18 rfl).choose_spec, He.glo_ok X G (c.fact 18 (f := .glo "book_holds") rfl)⟩⟩
  g__law_deck := ⟨_, (c.def_ 19 rfl).choose, ⟨(c.def_ 19 rfl).choose_spec, He.glo_ok X G (c.fact 19 (f := .glo "_law_deck") rfl)⟩⟩
  g__law_draw := ⟨_, (c.def_ 20 rfl).choose, ⟨(c.def_ 20 rfl).choose_spec, He.glo_ok X G (c.fact 20 (f := .glo "_law_draw") rfl)⟩⟩
  g__law_pick := ⟨_, (c.def_ 21 rfl).choose, ⟨(c.def_ 21 rfl).choose_spec, He.glo_ok X G (c.fact 21 (f := .glo "_law_pick") rfl)⟩⟩
  g__law_euclid := ⟨_, (c.def_ 22 rfl).choose, ⟨(c.def_ 22 rfl).choose_spec, He.glo_ok X G (c.fact 22 (f := .glo "_law_euclid") rfl)⟩⟩
  g__law_common := ⟨_, (c.def_ 23 rfl).choose, ⟨(c.def_ 23 rfl).choose_spec, He.glo_ok X G (c.fact 23 (f := .glo "_law_common") rfl)⟩⟩
  g__law_holds := ⟨_, (c.def_ 24 rfl).choose, ⟨(c.def_ 24 rfl).choose_spec, He.glo_ok X G (c.fact 24 (f := .glo "_law_holds") rfl)⟩⟩
  g__law_same := ⟨_, (c.def_ 25 rfl).choose, ⟨(c.def_ 25 rfl).choose_spec, He.glo_ok X G (c.fact 25 (f := .glo "_law_same") rfl)⟩⟩
  g__law_shuffled := ⟨_, (c.def_ 26 rfl).choose, ⟨(c.def_ 26 rfl).choose_spec, He.glo_ok X G (c.fact 26 (f := .glo "_law_shuffled") rfl)⟩⟩
  g__law_odd := ⟨_, (c.def_ 27 rfl).choose, ⟨(c.def_ 27 rfl).choose_spec, He.glo_ok X G (c.fact 27 (f := .glo "_law_odd") rfl)⟩⟩
  g__law_bent := ⟨_, (c.def_ 28 rfl).choose, ⟨(c.def_ 28 rfl).choose_spec, He.glo_ok X G (c.fact 28 (f := .glo "_law_bent") rfl)⟩⟩
  g__law_dart := ⟨_, (c.def_ 29 rfl).choose, ⟨(c.def_ 29 rfl).choose_spec, He.glo_ok X G (c.fact 29 (f := .glo "_law_dart") rfl)⟩⟩
  g__law_claim := ⟨_, (c.def_ 30 rfl).choose, ⟨(c.def_ 30 rfl).choose_spec, He.glo_ok X G (c.fact 30 (f := .glo "_law_claim") rfl)⟩⟩
  g__law_meeting := ⟨_, (c.def_ 31 rfl).choose, ⟨(c.def_ 31 rfl).choose_spec, He.glo_ok X G (c.fact 31 (f := .glo "_law_meeting") rfl)⟩⟩
  g__law_woven := ⟨_, (c.def_ 32 rfl).choose, ⟨(c.def_ 32 rfl).choose_spec, He.glo_ok X G (c.fact 32 (f := .glo "_law_woven") rfl)⟩⟩
  g__law_book := ⟨_, (c.def_ 33 rfl).choose, ⟨(c.def_ 33 rfl).choose_spec, He.glo_ok X G (c.fact 33 (f := .glo "_law_book") rfl)⟩⟩
  g__law_is_integer := ⟨_, (c.def_ 34 rfl).choose, ⟨(c.def_ 34 rfl).choose_spec, He.glo_ok X G (c.fact 34 (f := .glo "_law_is_integer") rfl)⟩⟩
  g__law_is_book := ⟨_, (c.def_ 35 rfl).choose, ⟨(c.def_ 35 rfl).choose_spec, He.glo_ok X G (c.fact 35 (f := .glo "_law_is_book") rfl)⟩⟩
  g__law_clashes := ⟨_, (c.def_ 36 rfl).choose, ⟨(c.def_ 36 rfl).choose_spec, He.glo_ok X G (c.fact 36 (f := .glo "_law_clashes") rfl)⟩⟩
  g__law_is_paper := ⟨_, (c.def_ 37 rfl).choose, ⟨(c.def_ 37 rfl).choose_spec, He.glo_ok X G (c.fact 37 (f := .glo "_law_is_paper") rfl)⟩⟩
  g__law_near := ⟨_, (c.def_ 38 rfl).choose, ⟨(c.def_ 38 rfl).choose_spec, He.glo_ok X G (c.fact 38 (f := .glo "_law_near") rfl)⟩⟩
  g__law_is_found_right := ⟨_, (c.def_ 39 rfl).choose, ⟨(c.def_ 39 rfl).choose_spec, He.glo_ok X G (c.fact 39 (f := .glo "_law_is_found_right") rfl)⟩⟩
  g_law := ⟨_, (c.def_ 40 rfl).choose, ⟨(c.def_ 40 rfl).choose_spec, He.glo_ok X G (c.fact 40 (f := .glo "law") rfl)⟩⟩
  n_all := He.free_ok X G (c.fact 41 (f := .free "all") rfl)
  n_bool := He.free_ok X G (c.fact 42 (f := .free "bool") rfl)
  n_enumerate := He.free_ok X G (c.fact 43 (f := .free "enumerate") rfl)
  n_int := He.free_ok X G (c.fact 44 (f := .free "int") rfl)
  n_isinstance := He.free_ok X G (c.fact 45 (f := .free "isinstance") rfl)
  n_len := He.free_ok X G (c.fact 46 (f := .free "len") rfl)
  n_list := He.free_ok X G (c.fact 47 (f := .free "list") rfl)
  n_max := He.free_ok X G (c.fact 48 (f := .free "max") rfl)
  n_min := He.free_ok X G (c.fact 49 (f := .free "min") rfl)
  n_range := He.free_ok X G (c.fact 50 (f := .free "range") rfl)
  n_sorted := He.free_ok X G (c.fact 51 (f := .free "sorted") rfl)
  n_str := He.free_ok X G (c.fact 52 (f := .free "str") rfl)
  n_tuple := He.free_ok X G (c.fact 53 (f := .free "tuple") rfl)
  n_zip := He.free_ok X G (c.fact 54 (f := .free "zip") rfl)
  v_CLASH := He.str_ok X G (c.fact 55 (f := .str "CLASH" "clash") rfl)
  v_CLEAR := He.str_ok X G (c.fact 56 (f := .str "CLEAR" "clear") rfl)
  v_MOST_NUMBER := He.int_ok X G (c.fact 57 (f := .int "MOST_NUMBER" 1000000000) rfl)
  v_MOST_STEP := He.int_ok X G (c.fact 58 (f := .int "MOST_STEP" 1000000) rfl)
  v_MOST_STREET := He.int_ok X G (c.fact 59 (f := .int "MOST_STREET" 99) rfl)
end K35
open PySem PySem.W PySem.Calls PyProof.Rows
theorem PySem.Challenge.cw_everyscale_k35_numbers_that_claims_hold_holds : PySem.Challenge.rw_everyscale_k35_numbers_that_claims_hold.Holds := by
  w_on; o_law
  refine HandSHeadRun.head_any (r := OpenLaw.row PySem.Challenge.rw_everyscale_k35_numbers_that_claims_hold) (q := view (OpenLaw.row PySem.Challenge.rw_everyscale_k35_numbers_that_claims_hold).prog [53]) (H := K35.hk) (ob := K35.ob) (M := 14000) (loose := K35.loose) (d := HandSHeadRun.topDef (OpenLaw.row PySem.Challenge.rw_everyscale_k35_numbers_that_claims_hold).prog 53) (kwd := []) K35.ob_eq
    (by kernel_rfl) (fun s => by kernel_rfl) K35.run (by kernel_rfl) (by kernel_rfl) (by kernel_rfl) (by rfl) (by first | assumption | decide +kernel) (by decide +kernel) ⟨rfl, rfl, rfl, rfl, rfl, by decide +kernel⟩ ?hw ?hc
  case hw => w_witness2
  case hc =>
    refine L2.walk_ofE (l := PySem.Challenge.rw_everyscale_k35_numbers_that_claims_hold) (n := 63) (k := 11) (x := "script") (CX := L2.CX0) rfl (by decide) (by kernel_rfl) ⟨rfl, by decide, by decide⟩ ?F (fun _ _ _ _ z => z)
    intro w mg fa h Y G hmg0
    obtain ⟨K, KX, c⟩ := Y
    have hmg : mg ("law" : PySem.Str) = some (.ref fa) := by
      have e : (HandSHeadRun.topDef (OpenLaw.row PySem.Challenge.rw_everyscale_k35_numbers_that_claims_hold).prog 53).name = ("law" : PySem.Str) := by kernel_rfl
      rw [← e]
      exact hmg0
    have fx := K35.facts KX G c
    obtain ⟨f, fd, G1⟩ := fx.g_law
    have ef := G1.gl.symm.trans hmg
    cases ef
    have b := FunD.bindsA (ps := ["script"]) G1.fn K35.bd_law
    refine ⟨K, fd, Mi.spNo (Mi.spD K 1 K35.m_law), KX, fun s v => b s [v] rfl, fun H a ns hl _ hS => Mi.law_sp K35.law_true H a ns hl hS, fun base _ _ => ?_⟩
    obtain ⟨f2, fd2, G2, F2⟩ := (K35.ok_law (P := (PySem.Challenge.rw_everyscale_k35_numbers_that_claims_hold).prog) (w := w) (base := base) fx).ex
    have e1 := G1.gl.symm.trans G2.gl
    cases e1
    have e2 := Mi.fdEq G1.fn G2.fn
    subst e2
    exact Mi.no_exc F2
