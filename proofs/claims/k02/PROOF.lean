import PyProof.Rows.All
import PySem.Challenge.RW_everyscale_k02_whole_meetings_of_segment
import Wide.All
import OpenK.AllK
import Wide.FinOn
import HandS.ForMost
import HandS.ForExc
import HandS.Wide
import HandS.WideBits
import HandS.Walk
import HandS.Style
import HandS.TupAny
import HandS.TupMul
import HandS.IsInst
import HandS.Zip
import HandS.Deep
import HandS.NoneIn
import HandS.More
import HandS.Defaults
import HandS.Dict
import HandS.Head0
import HandS.Head1
import HandS.Head2
import HandS.HeadEnd
import HandS.HeadHook1
import HandS.HeadHook2
set_option Elab.async false
set_option linter.all false
set_option maxRecDepth 100000
set_option maxHeartbeats 4000000
/-! A layer of my own over the hand layer: values as data (tuples and unchanged lists as trees, changing objects as places of a store), readings as programs of a small monad. -/
namespace Mi
open PySem PySem.Spec PyProof.Rows L2

inductive D where
  | non | bl (b : Bool) | int (i : Int) | str (x : Str)
  | tup (l : List D) | lst (l : List D) | wls (l : List D)
  | loc (n : Nat) | gl (a : Addr) | ty (n : String)
instance : Inhabited D := ⟨.non⟩
inductive O where
  | lst (l : List D) | dct (l : List (Key × D)) | dcT (l : List (List Key × D)) | ins (C : Addr) (l : List (Str × D))
instance : Inhabited O := ⟨.lst []⟩
abbrev Sto := List O
inductive R (α : Type) where
  | ok (a : α) (S : Sto) | exc (C : Addr) (fs : List (Str × D)) (S : Sto) | bad
def R.bind {α β : Type} : R α → (α → Sto → R β) → R β
  | .ok a S, f => f a S
  | .exc C fs S, _ => .exc C fs S
  | .bad, _ => .bad
@[simp] theorem R.bind_ok {α β : Type} {a : α} {S : Sto} {f : α → Sto → R β} : (R.ok a S).bind f = f a S := rfl
@[simp] theorem R.bind_exc {α β : Type} {C fs S} {f : α → Sto → R β} : (R.exc C fs S : R α).bind f = .exc C fs S := rfl
@[simp] theorem R.bind_bad {α β : Type} {f : α → Sto → R β} : (R.bad : R α).bind f = .bad := rfl
def R.of {α : Type} : Option α → Sto → R α
  | some a, S => .ok a S
  | none, _ => .bad
@[simp] theorem R.of_some {α : Type} {a : α} {S : Sto} : R.of (some a) S = .ok a S := rfl
@[simp] theorem R.of_none {α : Type} {S : Sto} : R.of (none : Option α) S = .bad := rfl
abbrev En := List (Option D)
/-- the places of the store; pv: lists that are just being built -/
structure Rho where
  m : Nat → Option Addr
  pv : Addr → Prop
def Rho.no (ρ : Rho) (a : Addr) : Prop := (∀ n, ρ.m n ≠ some a) ∧ ¬ ρ.pv a

/-! ### what a datum stands for -/
def WLs (K : PySem.W.Frag) (H : Hp) (a : Addr) (xs : List V) : Prop :=
  (∃ o, H a = some (.frz o (.lst xs))) ∨ ∃ (o : Obj) (its : Array Value) (n : Nat), K.lookup a = some o ∧ o.cls = .type "list" ∧ o.dict = none ∧ o.data = .seq its n ∧ its.size ≤ sizeLine ∧ Vals xs its.toList
theorem WLs.sq {K : PySem.W.Frag} {H : Hp} {a : Addr} {xs : List V} (h : WLs K H a xs) : SqL K H a xs := by
  rcases h with h | h
  · exact .inl (.inr h)
  · exact .inr h
def TLs (K : PySem.W.Frag) (H : Hp) (a : Addr) (xs : List V) : Prop :=
  H a = some (.tup xs) ∨ ∃ (o : Obj) (its : Array Value) (n : Nat), K.lookup a = some o ∧ o.cls = .type "tuple" ∧ o.data = .seq its n ∧ its.size ≤ sizeLine ∧ Vals xs its.toList
theorem TLs.sq {K : PySem.W.Frag} {H : Hp} {a : Addr} {xs : List V} (h : TLs K H a xs) : SqT K H a xs := by
  rcases h with h | h
  · exact .inl (.inl h)
  · exact .inr h
mutual
def Rp (K : PySem.W.Frag) (ρ : Rho) (H : Hp) : D → V → Prop
  | .non, v => v = .non
  | .bl b, v => v = .bl b
  | .int i, v => v = .int i
  | .str x, v => v = .str x
  | .tup l, v => ∃ p vs, v = .ref p ∧ TLs K H p vs ∧ Rps K ρ H l vs
  | .lst l, v => ∃ p vs, v = .ref p ∧ H p = some (.lst vs) ∧ ρ.no p ∧ Rps K ρ H l vs
  | .wls l, v => ∃ p vs, v = .ref p ∧ WLs K H p vs ∧ Rps K ρ H l vs
  | .loc n, v => ∃ a, v = .ref a ∧ ρ.m n = some a
  | .gl a, v => v = .ref a
  | .ty n, v => v = .ty n
def Rps (K : PySem.W.Frag) (ρ : Rho) (H : Hp) : List D → List V → Prop
  | [], vs => vs = []
  | d :: ds, vs => ∃ v r, vs = v :: r ∧ Rp K ρ H d v ∧ Rps K ρ H ds r
end
/-- what may change -/
def Mk : HO → Prop
  | .lst _ => True
  | .dK _ => True
  | .dT _ => True
  | .ins _ _ _ => True
  | .set _ _ => True
  | _ => False
def KVs {κ : Type} (K : PySem.W.Frag) (ρ : Rho) (H : Hp) : List (κ × D) → List (κ × V) → Prop
  | [], vs => vs = []
  | d :: ds, vs => ∃ v r, vs = (d.1, v) :: r ∧ Rp K ρ H d.2 v ∧ KVs K ρ H ds r
def OOk (K : PySem.W.Frag) (ρ : Rho) (H : Hp) (a : Addr) : O → Prop
  | .lst l => ∃ vs, H a = some (.lst vs) ∧ Rps K ρ H l vs
  | .dct l => ∃ vs, H a = some (.dK vs) ∧ KVs K ρ H l vs
  | .dcT l => ∃ vs, H a = some (.dT vs) ∧ KVs K ρ H l vs
  | .ins C l => ∃ dx vs, H a = some (.ins C dx vs) ∧ KVs K ρ H l vs
structure SOk (K : PySem.W.Frag) (ρ : Rho) (S : Sto) (H : Hp) : Prop where
  inj : ∀ n m a, ρ.m n = some a → ρ.m m = some a → n = m
  dom : ∀ n a, ρ.m n = some a → n < S.length
  obj : ∀ n o, S[n]? = some o → ∃ a, ρ.m n = some a ∧ OOk K ρ H a o
  prv : ∀ a, ρ.pv a → (∃ o, H a = some o ∧ Mk o) ∧ ∀ n, ρ.m n ≠ some a
structure Stp (ρ ρ' : Rho) (H H' : Hp) : Prop where
  up : ∀ n a, ρ.m n = some a → ρ'.m n = some a
  new : ∀ n a, ρ'.m n = some a → ρ.m n = some a ∨ H a = none
  pv : ∀ a, ρ'.pv a → ρ.pv a ∨ H a = none
  pvu : ∀ a, ρ.pv a → ρ'.pv a
  keep : ∀ a o, H a = some o → (∀ n, ρ.m n ≠ some a) → H' a = some o
  live : ∀ a, H' a = none → H a = none
structure EOk (K : PySem.W.Frag) (ρ : Rho) (H : Hp) (env : En) (σ : List (Option V)) : Prop where
  len : env.length = σ.length
  val : ∀ (i : Nat) (d : D), env[i]? = some (some d) → ∃ v : V, σ[i]? = some (some v) ∧ Rp K ρ H d v
section
variable {K : PySem.W.Frag} {ρ ρ' ρ'' : Rho} {S S' : Sto} {H H' H'' : Hp} {env : En} {σ : L2.St}
theorem SOk.mk' (h : SOk K ρ S H) {n : Nat} {a : Addr} (e : ρ.m n = some a) : ∃ o, H a = some o ∧ Mk o := by
  have hl := h.dom n a e
  obtain ⟨b, hb, ok⟩ := h.obj n S[n] (by simp [hl])
  rw [e] at hb; cases hb
  generalize S[n] = o at ok
  cases o with
  | lst l => obtain ⟨vs, h1, _⟩ := ok; exact ⟨_, h1, trivial⟩
  | dct l => obtain ⟨vs, h1, _⟩ := ok; exact ⟨_, h1, trivial⟩
  | dcT l => obtain ⟨vs, h1, _⟩ := ok; exact ⟨_, h1, trivial⟩
  | ins C l => obtain ⟨dx, vs, h1, _⟩ := ok; exact ⟨_, h1, trivial⟩
theorem SOk.get (h : SOk K ρ S H) {n : Nat} {a : Addr} (e : ρ.m n = some a) : ∃ o, S[n]? = some o ∧ OOk K ρ H a o := by
  have hl := h.dom n a e
  obtain ⟨b, hb, ok⟩ := h.obj n S[n] (by simp [hl])
  rw [e] at hb; cases hb
  exact ⟨_, by simp [hl], ok⟩
theorem Stp.refl : Stp ρ ρ H H := ⟨fun _ _ h => h, fun _ _ h => .inl h, fun _ h => .inl h, fun _ h => h, fun _ _ h _ => h, fun _ h => h⟩
theorem Stp.trans (a : Stp ρ ρ' H H') (b : Stp ρ' ρ'' H' H'') : Stp ρ ρ'' H H'' where
  up n x h := b.up n x (a.up n x h)
  new n x h := by
    rcases b.new n x h with h | h
    · exact a.new n x h
    · exact .inr (a.live x h)
  pv x h := by
    rcases b.pv x h with h | h
    · exact a.pv x h
    · exact .inr (a.live x h)
  pvu x h := b.pvu x (a.pvu x h)
  keep x o h hn := by
    have h1 := a.keep x o h hn
    refine b.keep x o h1 fun n z => ?_
    rcases a.new n x z with q | q
    · exact hn n q
    · rw [h] at q; cases q
  live x h := a.live x (b.live x h)
theorem upd_live {p : Addr} {o : HO} {a : Addr} (h : upd H p o a = none) : H a = none := by
  by_cases e : a = p
  · subst e; rw [upd_same] at h; cases h
  · rw [upd_ne e] at h; exact h
/-- a new object that is not tracked as one that changes -/
theorem Stp.alloc {p : Addr} {o : HO} (hp : H p = none) : Stp ρ ρ H (upd H p o) where
  up _ _ h := h
  new _ _ h := .inl h
  pv _ h := .inl h
  pvu _ h := h
  keep a u h _ := by rw [upd_ne (ne_of_none h hp)]; exact h
  live a h := upd_live h
/-- what cannot change is none of the changing objects -/
theorem SOk.no (h : SOk K ρ S H) {b : Addr} {o : HO} (hb : H b = some o) (hm : ¬ Mk o) : ρ.no b := by
  refine ⟨fun n e => ?_, fun e => ?_⟩
  · obtain ⟨u, h1, h2⟩ := h.mk' e
    rw [hb] at h1; cases h1; exact hm h2
  · obtain ⟨⟨u, h1, h2⟩, _⟩ := h.prv b e
    rw [hb] at h1; cases h1; exact hm h2
theorem SOk.noN (h : SOk K ρ S H) {b : Addr} (hb : H b = none) : ρ.no b := by
  refine ⟨fun n e => ?_, fun e => ?_⟩
  · obtain ⟨u, h1, h2⟩ := h.mk' e
    rw [hb] at h1; cases h1
  · obtain ⟨⟨u, h1, h2⟩, _⟩ := h.prv b e
    rw [hb] at h1; cases h1
theorem Stp.tls {p : Addr} {vs : List V} (hS : SOk K ρ S H) (st : Stp ρ ρ' H H') (h : TLs K H p vs) : TLs K H' p vs := by
  rcases h with h | h
  · exact .inl (st.keep _ _ h (hS.no h (fun z => z)).1)
  · exact .inr h
theorem Stp.wls {p : Addr} {vs : List V} (hS : SOk K ρ S H) (st : Stp ρ ρ' H H') (h : WLs K H p vs) : WLs K H' p vs := by
  rcases h with ⟨o, h⟩ | h
  · exact .inl ⟨o, st.keep _ _ h (hS.no h (fun z => z)).1⟩
  · exact .inr h
theorem Stp.no {p : Addr} {o : HO} (st : Stp ρ ρ' H H') (hp : H p = some o) (h : ρ.no p) : ρ'.no p := by
  refine ⟨fun n z => ?_, fun z => ?_⟩
  · rcases st.new n p z with q | q
    · exact h.1 n q
    · rw [hp] at q; cases q
  · rcases st.pv p z with q | q
    · exact h.2 q
    · rw [hp] at q; cases q
mutual
theorem Rp.step (hS : SOk K ρ S H) (st : Stp ρ ρ' H H') : ∀ (d : D) (v : V), Rp K ρ H d v → Rp K ρ' H' d v
  | .non, v, h => h
  | .bl b, v, h => h
  | .int i, v, h => h
  | .str x, v, h => h
  | .tup l, v, h => by
    obtain ⟨p, vs, e, h1, h2⟩ := h
    exact ⟨p, vs, e, st.tls hS h1, Rps.step hS st l vs h2⟩
  | .lst l, v, h => by
    obtain ⟨p, vs, e, h1, h2, h3⟩ := h
    exact ⟨p, vs, e, st.keep _ _ h1 h2.1, st.no h1 h2, Rps.step hS st l vs h3⟩
  | .wls l, v, h => by
    obtain ⟨p, vs, e, h1, h2⟩ := h
    exact ⟨p, vs, e, st.wls hS h1, Rps.step hS st l vs h2⟩
  | .loc n, v, h => by
    obtain ⟨a, e, h1⟩ := h
    exact ⟨a, e, st.up n a h1⟩
  | .gl a, v, h => h
  | .ty n, v, h => h
theorem Rps.step (hS : SOk K ρ S H) (st : Stp ρ ρ' H H') : ∀ (ds : List D) (vs : List V), Rps K ρ H ds vs → Rps K ρ' H' ds vs
  | [], vs, h => h
  | d :: ds, vs, h => by
    obtain ⟨v, r, e, h1, h2⟩ := h
    exact ⟨v, r, e, Rp.step hS st d v h1, Rps.step hS st ds r h2⟩
end
theorem EOk.step (hS : SOk K ρ S H) (st : Stp ρ ρ' H H') (h : EOk K ρ H env σ) : EOk K ρ' H' env σ :=
  ⟨h.len, fun i d e => by
    obtain ⟨v, h1, h2⟩ := h.val i d e
    exact ⟨v, h1, Rp.step hS st d v h2⟩⟩
end
/-! ### ends -/
abbrev Rel (α β : Type) := Rho → Hp → α → β → Prop
def Post {α β : Type} (K : PySem.W.Frag) (W : WX) (rel : Rel α β) (ρ : Rho) (H : Hp) (σ : L2.St) (r : R α) (Q : β → Hp → Prop) : Prop :=
  match r with
  | .ok a S' => ∀ ρ' H' v, SOk K ρ' S' H' → Stp ρ ρ' H H' → rel ρ' H' a v → Q v H'
  | .exc C fs S' => ∀ ρ' H' d vs, SOk K ρ' S' H' → Stp ρ ρ' H H' → ρ'.no d → H' d = some (.xd vs) → KVs K ρ' H' fs vs → W (.ref C) (some d) σ H'
  | .bad => False
def tG {α β : Type} (K : PySem.W.Frag) (W : WX) (rel : Rel α β) (m : En → Sto → R α) : L2.St → Hp → (β → Hp → Prop) → Prop := fun σ H Q =>
  ∃ ρ S env, SOk K ρ S H ∧ EOk K ρ H env σ ∧ Post K W rel ρ H σ (m env S) Q
section
variable {K : PySem.W.Frag} {W : WX} {ρ ρ' ρ'' : Rho} {S S' : Sto} {H H' H'' : Hp} {env : En} {σ : L2.St} {α β γ δ : Type}
theorem Post.step {rel : Rel α β} {r : R α} {Q : β → Hp → Prop} (st : Stp ρ ρ' H H') (h : Post K W rel ρ H σ r Q) : Post K W rel ρ' H' σ r Q := by
  cases r with
  | ok a S1 => exact fun ρ2 H2 v h1 h2 h3 => h ρ2 H2 v h1 (st.trans h2) h3
  | exc C fs S1 => exact fun ρ2 H2 d vs h1 h2 h3 h4 h5 => h ρ2 H2 d vs h1 (st.trans h2) h3 h4 h5
  | bad => exact h
theorem Post.mono {rel : Rel α β} {r : R α} {Q Q' : β → Hp → Prop} (h : Post K W rel ρ H σ r Q) (hq : ∀ v H', Q v H' → Q' v H') : Post K W rel ρ H σ r Q' := by
  cases r with
  | ok a S1 => exact fun ρ2 H2 v h1 h2 h3 => hq _ _ (h ρ2 H2 v h1 h2 h3)
  | exc C fs S1 => exact h
  | bad => exact h
/-- one reading ahead of another one -/
theorem Post.bind {rel : Rel α β} {rel2 : Rel γ δ} {m : En → Sto → R α} {g : α → Sto → R γ} {Q : δ → Hp → Prop} (hS : SOk K ρ S H) (hE : EOk K ρ H env σ)
    (h : Post K W rel2 ρ H σ ((m env S).bind g) Q) :
    tG K W rel m σ H fun v H1 => ∃ ρ1 S1 a, SOk K ρ1 S1 H1 ∧ EOk K ρ1 H1 env σ ∧ Stp ρ ρ1 H H1 ∧ rel ρ1 H1 a v ∧ Post K W rel2 ρ1 H1 σ (g a S1) Q := by
  refine ⟨ρ, S, env, hS, hE, ?_⟩
  revert h
  generalize m env S = r
  intro h
  cases r with
  | ok a S1 => exact fun ρ2 H2 v h1 h2 h3 => ⟨ρ2, S1, a, h1, hE.step hS h2, h2, h3, h.step h2⟩
  | exc C fs S1 => exact h
  | bad => exact h
theorem tG.mono {rel : Rel α β} {m : En → Sto → R α} {Q Q' : β → Hp → Prop} (h : tG K W rel m σ H Q) (hq : ∀ v H', Q v H' → Q' v H') : tG K W rel m σ H Q' := by
  obtain ⟨ρ, S, env, h1, h2, h3⟩ := h
  exact ⟨ρ, S, env, h1, h2, h3.mono hq⟩
theorem Post.bindK {rel : Rel α β} {rel2 : Rel γ δ} {m : En → Sto → R α} {g : α → Sto → R γ} {Q : δ → Hp → Prop} {Q1 : β → Hp → Prop} (hS : SOk K ρ S H) (hE : EOk K ρ H env σ)
    (h : Post K W rel2 ρ H σ ((m env S).bind g) Q)
    (k : ∀ v H1 ρ1 S1 a, SOk K ρ1 S1 H1 → EOk K ρ1 H1 env σ → Stp ρ ρ1 H H1 → rel ρ1 H1 a v → Post K W rel2 ρ1 H1 σ (g a S1) Q → Q1 v H1) :
    tG K W rel m σ H Q1 := (Post.bind hS hE h).mono fun v H1 ⟨ρ1, S1, a, h1, h2, h3, h4, h5⟩ => k v H1 ρ1 S1 a h1 h2 h3 h4 h5
end
abbrev TM := En → Sto → R D
abbrev BM := En → Sto → R Bool
abbrev AM := En → Sto → R (List D)
def relB : Rel Bool Bool := fun _ _ b c => b = c
abbrev tE (K : PySem.W.Frag) (W : WX) (m : TM) : TE := tG K W (Rp K) m
abbrev tT (K : PySem.W.Frag) (W : WX) (m : BM) : TT := tG K W relB m
abbrev tA (K : PySem.W.Frag) (W : WX) (m : AM) : TA := tG K W (Rps K) m
structure DE (X : Cx) (W : WX) (e : Expr) (m : TM) : Prop where
  p : PE X e (tE X.K W m)
structure DT (X : Cx) (W : WX) (e : Expr) (m : BM) : Prop where
  p : PT X e (tT X.K W m)
structure DA (X : Cx) (W : WX) (es : List Expr) (m : AM) : Prop where
  p : PA X es (tA X.K W m)
theorem PE.imp {X : Cx} {e : Expr} {t t' : TE} (h : PE X e t) (i : ∀ σ H Q, t' σ H Q → t σ H Q) : PE X e t' := ⟨fun pins s σ H Q I q => h.run pins s σ H Q I (i σ H Q q)⟩
theorem PT.imp {X : Cx} {e : Expr} {t t' : TT} (h : PT X e t) (i : ∀ σ H Q, t' σ H Q → t σ H Q) : PT X e t' := ⟨fun pins s σ H Q I q => h.run pins s σ H Q I (i σ H Q q)⟩
theorem PW.imp {X : Cx} {e : Expr} {t t' : TT} (h : PW X e t) (i : ∀ σ H Q, t' σ H Q → t σ H Q) : PW X e t' := ⟨fun wh pins s σ H Q I q => h.run wh pins s σ H Q I (i σ H Q q)⟩
theorem PA.imp {X : Cx} {e : List Expr} {t t' : TA} (h : PA X e t) (i : ∀ σ H Q, t' σ H Q → t σ H Q) : PA X e t' := ⟨fun pos pins s σ H Q I q => h.run pos pins s σ H Q I (i σ H Q q)⟩
theorem PS.imp {X : Cx} {e : Stmt} {t t' : TS} (h : PS X e t) (i : ∀ D σ H, t' D σ H → t D σ H) : PS X e t' := ⟨fun pins s σ H D I q => h.run pins s σ H D I (i D σ H q)⟩
theorem PSs.imp {X : Cx} {e : List Stmt} {t t' : TS} (h : PSs X e t) (i : ∀ D σ H, t' D σ H → t D σ H) : PSs X e t' := ⟨fun pins s σ H D I q => h.run pins s σ H D I (i D σ H q)⟩

/-! ### names, constants -/
def mVar (i : Nat) : TM := fun env S => match env[i]? with
  | some (some d) => .ok d S
  | _ => .bad
def mC (d : D) : TM := fun _ S => .ok d S
section
variable {X : Cx} {W : WX} {a b c : Expr} {ma mb mc : TM} {pos : Pos}
theorem d_var {i : Nat} {x : Str} (hN : X.N[i]? = some x) (hv : Vis X.env.scope x) (hd : (x == ("__debug__" : Str)) = false := by decide) (hcd : (x == ("__classdict__" : Str)) = false := by decide) : DE X W (.Name x pos) (mVar i) := by
  refine ⟨PE.imp (pe_var hN hv hd hcd) fun σ H Q ⟨ρ, S, env, hS, hE, h⟩ => ?_⟩
  unfold mVar at h
  split at h
  · rename_i d e
    obtain ⟨v, e1, r⟩ := hE.val i d e
    exact ⟨v, e1, h ρ H v hS .refl r⟩
  · exact h.elim
theorem d_int {i : Int} {k : Nat} : DE X W (.Constant (.int i) k pos) (mC (.int i)) := ⟨PE.imp pe_int fun σ H Q ⟨ρ, S, env, hS, hE, h⟩ => h ρ H (.int i) hS .refl rfl⟩
theorem d_str {i : Str} {k : Nat} : DE X W (.Constant (.str i) k pos) (mC (.str i)) := ⟨PE.imp pe_str fun σ H Q ⟨ρ, S, env, hS, hE, h⟩ => h ρ H (.str i) hS .refl rfl⟩
theorem d_bl {i : Bool} {k : Nat} : DE X W (.Constant (.bool i) k pos) (mC (.bl i)) := ⟨PE.imp pe_bl fun σ H Q ⟨ρ, S, env, hS, hE, h⟩ => h ρ H (.bl i) hS .refl rfl⟩
theorem d_non {k : Nat} : DE X W (.Constant .none k pos) (mC .non) := ⟨PE.imp pe_non fun σ H Q ⟨ρ, S, env, hS, hE, h⟩ => h ρ H .non hS .refl rfl⟩
end

/-! ### operators, by values -/
abbrev G2 := Sto → D → D → Option D
abbrev G1 := Sto → D → Option D
def rD (K : PySem.W.Frag) (g : G2) : R2 := fun x y H Q => ∃ ρ S a b z, SOk K ρ S H ∧ Rp K ρ H a x ∧ Rp K ρ H b y ∧ g S a b = some z ∧
  ∀ ρ' H' v, SOk K ρ' S H' → Stp ρ ρ' H H' → Rp K ρ' H' z v → Q v H'
def rD1 (K : PySem.W.Frag) (g : G1) : V → Hp → VK → Prop := fun x H Q => ∃ ρ S a z, SOk K ρ S H ∧ Rp K ρ H a x ∧ g S a = some z ∧
  ∀ ρ' H' v, SOk K ρ' S H' → Stp ρ ρ' H H' → Rp K ρ' H' z v → Q v H'
def mOp (g : G2) (ma mb : TM) : TM := fun env S => (ma env S).bind fun a S1 => (mb env S1).bind fun b S2 => R.of (g S2 a b) S2
def mUn (g : G1) (ma : TM) : TM := fun env S => (ma env S).bind fun a S1 => R.of (g S1 a) S1
section
variable {X : Cx} {W : WX} {a b c : Expr} {ma mb mc : TM} {pos : Pos}
theorem of_op {K : PySem.W.Frag} {g : G2} {σ : L2.St} {H : Hp} {Q : VK} (h : tE K W (mOp g ma mb) σ H Q) : tOp (rD K g) (tE K W ma) (tE K W mb) σ H Q := by
  obtain ⟨ρ, S, env, hS, hE, h⟩ := h
  refine Post.bindK hS hE h fun x H1 ρ1 S1 d1 hS1 hE1 st1 r1 h1 => ?_
  refine Post.bindK hS1 hE1 h1 fun y H2 ρ2 S2 d2 hS2 hE2 st2 r2 h2 => ?_
  have r1' := r1.step hS1 st2
  cases e : g S2 d1 d2 with
  | none => rw [e] at h2; exact h2.elim
  | some z =>
    rw [e] at h2
    exact ⟨ρ2, S2, d1, d2, z, hS2, r1', r2, e, h2⟩
theorem of_un {K : PySem.W.Frag} {g : G1} {σ : L2.St} {H : Hp} {Q : VK} (h : tE K W (mUn g ma) σ H Q) : tUn (rD1 K g) (tE K W ma) σ H Q := by
  obtain ⟨ρ, S, env, hS, hE, h⟩ := h
  refine Post.bindK hS hE h fun x H1 ρ1 S1 d1 hS1 hE1 st1 r1 h1 => ?_
  cases e : g S1 d1 with
  | none => rw [e] at h1; exact h1.elim
  | some z =>
    rw [e] at h1
    exact ⟨ρ1, S1, d1, z, hS1, r1, e, h1⟩
theorem d_bin {op : Operator} {g : G2} (ho : OpR X (binaryOp op) (rD X.K g)) (ha : DE X W a ma) (hb : DE X W b mb) : DE X W (.BinOp a op b pos) (mOp g ma mb) :=
  ⟨PE.imp (pe_op ho ha.p hb.p) fun σ H Q h => of_op h⟩
theorem d_un {op : UnaryOp} {g : G1} (ho : UnR X (unaryOp op) (rD1 X.K g)) (ha : DE X W a ma) : DE X W (.UnaryOp op a pos) (mUn g ma) :=
  ⟨PE.imp (pe_un ho ha.p) fun σ H Q h => of_un h⟩
theorem d_cmp {op : CmpOp} {g : G2} (ho : OpR X (compareOp op) (rD X.K g)) (ha : DE X W a ma) (hb : DE X W b mb) (hm : behindInMarks op b = false) : DE X W (.Compare a [op] [b] pos) (mOp g ma mb) :=
  ⟨PE.imp (pe_cmpR ho ha.p hb.p hm) fun σ H Q h => of_op h⟩
end
end Mi

namespace Mi
open PySem PySem.Spec PyProof.Rows L2
section
variable {K : PySem.W.Frag} {ρ ρ' : Rho} {S S' : Sto} {H H' : Hp}
theorem Rps.length : ∀ {ds : List D} {vs : List V}, Rps K ρ H ds vs → ds.length = vs.length
  | [], _, h => by cases h; rfl
  | d :: ds, _, h => by obtain ⟨v, r, rfl, _, h2⟩ := h; simp [Rps.length h2]
theorem Rps.get : ∀ {ds : List D} {vs : List V} {i : Nat} {d : D}, Rps K ρ H ds vs → ds[i]? = some d → ∃ v, vs[i]? = some v ∧ Rp K ρ H d v
  | [], _, _, _, _, e => by simp at e
  | d :: ds, _, 0, x, h, e => by obtain ⟨v, r, rfl, h1, _⟩ := h; simp at e; subst e; exact ⟨v, rfl, h1⟩
  | d :: ds, _, i + 1, x, h, e => by
    obtain ⟨v, r, rfl, _, h2⟩ := h
    obtain ⟨w, h3, h4⟩ := Rps.get (i := i) h2 (by simpa using e)
    exact ⟨w, by simpa using h3, h4⟩
theorem Rps.append : ∀ {ds es : List D} {vs ws : List V}, Rps K ρ H ds vs → Rps K ρ H es ws → Rps K ρ H (ds ++ es) (vs ++ ws)
  | [], _, _, _, h, k => by cases h; exact k
  | d :: ds, _, _, _, h, k => by obtain ⟨v, r, rfl, h1, h2⟩ := h; exact ⟨v, _, rfl, h1, Rps.append h2 k⟩
theorem Rps.drop : ∀ {ds : List D} {vs : List V} (n : Nat), Rps K ρ H ds vs → Rps K ρ H (ds.drop n) (vs.drop n)
  | _, _, 0, h => h
  | [], _, n + 1, h => by cases h; rfl
  | d :: ds, _, n + 1, h => by obtain ⟨v, r, rfl, h1, h2⟩ := h; exact Rps.drop n h2
theorem Rps.take : ∀ {ds : List D} {vs : List V} (n : Nat), Rps K ρ H ds vs → Rps K ρ H (ds.take n) (vs.take n)
  | _, _, 0, h => rfl
  | [], _, n + 1, h => by cases h; rfl
  | d :: ds, _, n + 1, h => by obtain ⟨v, r, rfl, h1, h2⟩ := h; exact ⟨v, _, rfl, h1, Rps.take n h2⟩
theorem Rps.nil_iff {ds : List D} {vs : List V} (h : Rps K ρ H ds vs) : ds = [] ↔ vs = [] := by
  cases ds with
  | nil => cases h; simp
  | cons d ds => obtain ⟨v, r, rfl, _⟩ := h; simp
theorem Rps.set : ∀ {ds : List D} {vs : List V} (i : Nat) {d : D} {v : V}, Rps K ρ H ds vs → Rp K ρ H d v → Rps K ρ H (ds.set i d) (vs.set i v)
  | [], _, _, _, _, h, k => by cases h; rfl
  | d :: ds, _, 0, _, _, h, k => by obtain ⟨v, r, rfl, h1, h2⟩ := h; exact ⟨_, _, rfl, k, h2⟩
  | d :: ds, _, i + 1, _, _, h, k => by obtain ⟨v, r, rfl, h1, h2⟩ := h; exact ⟨_, _, rfl, h1, Rps.set i h2 k⟩
theorem SOk.alloc {p : Addr} {o : HO} (hS : SOk K ρ S H) (hp : H p = none) : SOk K ρ S (upd H p o) := by
  have st : Stp ρ ρ H (upd H p o) := .alloc hp
  have kv : ∀ {κ : Type} (l : List (κ × D)) (vs : List (κ × V)), KVs K ρ H l vs → KVs K ρ (upd H p o) l vs := by
    intro κ l
    induction l with
    | nil => intro vs h; exact h
    | cons d ds ih => intro vs h; obtain ⟨v, r, e, h1, h2⟩ := h; exact ⟨v, r, e, Rp.step hS st _ _ h1, ih r h2⟩
  refine ⟨hS.inj, hS.dom, fun n o' e => ?_, fun a h => ?_⟩
  · obtain ⟨a, ha, ok⟩ := hS.obj n o' e
    refine ⟨a, ha, ?_⟩
    cases o' with
    | lst l => obtain ⟨vs, h1, h2⟩ := ok; exact ⟨vs, by rw [upd_ne (ne_of_none h1 hp)]; exact h1, Rps.step hS st l vs h2⟩
    | dct l => obtain ⟨vs, h1, h2⟩ := ok; exact ⟨vs, by rw [upd_ne (ne_of_none h1 hp)]; exact h1, kv l vs h2⟩
    | dcT l => obtain ⟨vs, h1, h2⟩ := ok; exact ⟨vs, by rw [upd_ne (ne_of_none h1 hp)]; exact h1, kv l vs h2⟩
    | ins C l => obtain ⟨dx, vs, h1, h2⟩ := ok; exact ⟨dx, vs, by rw [upd_ne (ne_of_none h1 hp)]; exact h1, kv l vs h2⟩
  · obtain ⟨⟨u, h1, h2⟩, h3⟩ := hS.prv a h
    exact ⟨⟨u, by rw [upd_ne (ne_of_none h1 hp)]; exact h1, h2⟩, h3⟩
/-- a new tuple, a new list -/
theorem new_tup {p : Addr} {l : List D} {vs : List V} {Q : VK} (hS : SOk K ρ S H) (r : Rps K ρ H l vs) (hp : H p = none)
    (h : ∀ ρ' H' v, SOk K ρ' S H' → Stp ρ ρ' H H' → Rp K ρ' H' (.tup l) v → Q v H') : Q (.ref p) (upd H p (.tup vs)) :=
  h ρ _ (.ref p) (hS.alloc hp) (.alloc hp) ⟨p, vs, rfl, .inl upd_same, Rps.step hS (.alloc hp) l vs r⟩
theorem new_lst {p : Addr} {l : List D} {vs : List V} {Q : VK} (hS : SOk K ρ S H) (r : Rps K ρ H l vs) (hp : H p = none)
    (h : ∀ ρ' H' v, SOk K ρ' S H' → Stp ρ ρ' H H' → Rp K ρ' H' (.lst l) v → Q v H') : Q (.ref p) (upd H p (.lst vs)) :=
  h ρ _ (.ref p) (hS.alloc hp) (.alloc hp) ⟨p, vs, rfl, upd_same, hS.noN hp, Rps.step hS (.alloc hp) l vs r⟩
end

/-! ### sizes -/
def Sm (n : Nat) (i : Int) : Prop := i.natAbs < 2 ^ n
noncomputable instance {n : Nat} {i : Int} : Decidable (Sm n i) := Classical.propDecidable _
theorem Sm.le {n m : Nat} {i : Int} (h : Sm n i) (hn : n ≤ m) : Sm m i := Nat.lt_of_lt_of_le h (Nat.pow_le_pow_right (by decide) hn)
theorem Sm.mul {n m : Nat} {i j : Int} (h : Sm n i) (k : Sm m j) : Sm (n + m) (i * j) := wide_lt h k
theorem Sm.add {n m : Nat} {i j : Int} (h : Sm n i) (k : Sm m j) : Sm (n + m + 1) (i + j) := by
  have h' : i.natAbs < 2 ^ n := h
  have k' : j.natAbs < 2 ^ m := k
  have e1 : 2 ^ n ≤ 2 ^ (n + m) := Nat.pow_le_pow_right (by decide) (by omega)
  have e2 : 2 ^ m ≤ 2 ^ (n + m) := Nat.pow_le_pow_right (by decide) (by omega)
  show (i + j).natAbs < 2 ^ (n + m + 1)
  rw [Nat.pow_succ]; omega
theorem Sm.neg {n : Nat} {i : Int} (h : Sm n i) : Sm n (-i) := by
  show (-i).natAbs < _; rw [Int.natAbs_neg]; exact h
theorem Sm.sub {n m : Nat} {i j : Int} (h : Sm n i) (k : Sm m j) : Sm (n + m + 1) (i - j) := by
  rw [Int.sub_eq_add_neg]; exact h.add k.neg
theorem Sm.of_le {n : Nat} {i j : Int} (h : Sm n j) (k : i.natAbs ≤ j.natAbs) : Sm n i := Nat.lt_of_le_of_lt k h

/-! ### operators -/
def addD : G2 := fun S a b => match a, b with
  | .int i, .int j => some (.int (i + j))
  | .int i, .bl j => some (.int (i + b2i j))
  | .str x, .str y => if x.length + y.length ≤ 16777216 then some (.str (x ++ y)) else none
  | .tup l, .tup m => if l.length + m.length ≤ 16777216 then some (.tup (l ++ m)) else none
  | .lst l, .lst m => if l.length + m.length ≤ 16777216 then some (.lst (l ++ m)) else none
  | .loc n, .lst m => match S[n]? with
    | some (.lst l) => if l.length + m.length ≤ 16777216 then some (.lst (l ++ m)) else none
    | _ => none
  | .lst l, .loc n => match S[n]? with
    | some (.lst m) => if l.length + m.length ≤ 16777216 then some (.lst (l ++ m)) else none
    | _ => none
  | _, _ => none
theorem sizeLine16 : sizeLine = 16777216 := sizeLine_eq
section
variable {X : Cx}
/-- how such a rule is shown: cases of the data -/
theorem opD_add : OpR X (binaryOp .Add) (rD X.K addD) := by
  intro pins s σ H x y v u Q I rx ry ⟨ρ, S, a, b, z, hS, ra, rb, e, q⟩
  unfold addD at e
  split at e
  · cases e; cases ra; cases rb
    exact op_add pins s σ H _ _ v u Q I rx ry ⟨_, _, rfl, rfl, q ρ H _ hS .refl rfl⟩
  · cases e; cases ra; cases rb
    exact op_add_ib pins s σ H _ _ v u Q I rx ry ⟨_, _, rfl, rfl, q ρ H _ hS .refl rfl⟩
  · rename_i x1 y1
    split at e
    · rename_i hl
      cases e; cases ra; cases rb
      exact op_add_str pins s σ H _ _ v u Q I rx ry ⟨_, _, rfl, rfl, by rw [sizeLine16]; exact hl, q ρ H _ hS .refl rfl⟩
    · cases e
  · rename_i l m
    split at e
    · rename_i hl
      cases e
      obtain ⟨p1, xs, rfl, h1, r1⟩ := ra
      obtain ⟨p2, ys, rfl, h2, r2⟩ := rb
      refine op_catA pins s σ H _ _ v u Q I rx ry ⟨p1, p2, xs, ys, rfl, rfl, h1.sq, h2.sq, by rw [sizeLine16, ← r1.length, ← r2.length]; exact hl, fun e => ?_, fun _ e => ?_, fun _ _ p hp => ?_⟩
      · have := r1.nil_iff.mpr e; subst this
        exact q ρ H _ hS .refl ⟨p2, ys, rfl, h2, by simpa using r2⟩
      · have := r2.nil_iff.mpr e; subst this
        exact q ρ H _ hS .refl ⟨p1, xs, rfl, h1, by simpa using r1⟩
      · exact new_tup hS (r1.append r2) hp q
    · cases e
  · rename_i l m
    split at e
    · rename_i hl
      cases e
      obtain ⟨p1, xs, rfl, h1, n1, r1⟩ := ra
      obtain ⟨p2, ys, rfl, h2, n2, r2⟩ := rb
      exact op_cat pins s σ H _ _ v u Q I rx ry ⟨p1, p2, xs, ys, rfl, rfl, h1, h2, by rw [sizeLine16, ← r1.length, ← r2.length]; exact hl, fun p hp => new_lst hS (r1.append r2) hp q⟩
    · cases e
  · rename_i n m
    split at e
    · rename_i l hn
      split at e
      · rename_i hl
        cases e
        obtain ⟨p1, rfl, h1⟩ := ra
        obtain ⟨p2, ys, rfl, h2, n2, r2⟩ := rb
        obtain ⟨a1, e1, xs, hx, r1⟩ := hS.obj n _ hn
        rw [h1] at e1; cases e1
        exact op_cat pins s σ H _ _ v u Q I rx ry ⟨p1, p2, xs, ys, rfl, rfl, hx, h2, by rw [sizeLine16, ← r1.length, ← r2.length]; exact hl, fun p hp => new_lst hS (r1.append r2) hp q⟩
      · cases e
    · cases e
  · rename_i l n
    split at e
    · rename_i m hn
      split at e
      · rename_i hl
        cases e
        obtain ⟨p2, rfl, h1⟩ := rb
        obtain ⟨p1, xs, rfl, h2, n2, r1⟩ := ra
        obtain ⟨a1, e1, ys, hx, r2⟩ := hS.obj n _ hn
        rw [h1] at e1; cases e1
        exact op_cat pins s σ H _ _ v u Q I rx ry ⟨p1, p2, xs, ys, rfl, rfl, h2, hx, by rw [sizeLine16, ← r1.length, ← r2.length]; exact hl, fun p hp => new_lst hS (r1.append r2) hp q⟩
      · cases e
    · cases e
  · cases e

def subD : G2 := fun _ a b => match a, b with
  | .int i, .int j => some (.int (i - j))
  | .bl i, .bl j => some (.int (b2i i - b2i j))
  | _, _ => none
theorem opD_sub : OpR X (binaryOp .Sub) (rD X.K subD) := by
  intro pins s σ H x y v u Q I rx ry ⟨ρ, S, a, b, z, hS, ra, rb, e, q⟩
  unfold subD at e
  split at e
  · cases e; cases ra; cases rb
    exact op_sub pins s σ H _ _ v u Q I rx ry ⟨_, _, rfl, rfl, q ρ H _ hS .refl rfl⟩
  · cases e; cases ra; cases rb
    cases rx; cases ry
    exact sub_bool ⟨.int _, H, I.tok _, ⟨_, rfl⟩, q ρ H _ hS .refl rfl⟩
  · cases e
theorem intBits_le {i : Int} {n : Nat} (h : i.natAbs < 2 ^ n) (h0 : 0 < n) : (Builtin.Int.intBits i : Int) ≤ n := by
  have x := PySem.Flt.log2_lt_of h0 h
  unfold Builtin.Int.intBits
  split <;> omega
noncomputable def mulD : G2 := fun S a b => match a, b with
  | .int i, .int j => if Sm 60000 i ∧ Sm 60000 j then some (.int (i * j)) else none
  | .lst l, .int j => if 0 ≤ j ∧ j ≤ 100000 ∧ l.length * j.toNat ≤ 16777216 then some (.lst (List.replicate j.toNat l).flatten) else none
  | .loc n, .int j => match S[n]? with
    | some (.lst l) => if 0 ≤ j ∧ j ≤ 100000 ∧ l.length * j.toNat ≤ 16777216 then some (.lst (List.replicate j.toNat l).flatten) else none
    | _ => none
  | .tup l, .int j => if l ≠ [] ∧ 2 ≤ j ∧ j ≤ 1000 ∧ l.length ≤ 1000 then some (.tup (List.replicate j.toNat l).flatten) else none
  | _, _ => none
theorem Rps.rep {K : PySem.W.Frag} {ρ : Rho} {H : Hp} {l : List D} {vs : List V} (h : Rps K ρ H l vs) : ∀ n : Nat, Rps K ρ H (List.replicate n l).flatten (List.replicate n vs).flatten
  | 0 => rfl
  | n + 1 => by
    rw [List.replicate_succ, List.replicate_succ, List.flatten_cons, List.flatten_cons]
    exact h.append (Rps.rep h n)
theorem opD_mul : OpR X (binaryOp .Mult) (rD X.K mulD) := by
  intro pins s σ H x y v u Q I rx ry ⟨ρ, S, a, b, z, hS, ra, rb, e, q⟩
  unfold mulD at e
  split at e
  · split at e
    · rename_i hc
      cases e; cases ra; cases rb
      exact op_mulX pins s σ H _ _ v u Q I rx ry ⟨_, _, rfl, rfl, mulx_ok hc.1 hc.2 (by decide), q ρ H _ hS .refl rfl⟩
    · cases e
  · split at e
    · rename_i l j hc
      cases e
      obtain ⟨p1, xs, rfl, h1, n1, r1⟩ := ra
      cases rb
      exact op_rep pins s σ H _ _ v u Q I rx ry ⟨p1, _, xs, rfl, rfl, h1, by omega, by omega, by rw [sizeLine16, ← r1.length]; exact hc.2.2, fun p hp => new_lst hS (r1.rep _) hp q⟩
    · cases e
  · rename_i n j
    split at e
    · rename_i l hn
      split at e
      · rename_i hc
        cases e
        obtain ⟨p1, rfl, h1⟩ := ra
        obtain ⟨a1, e1, xs, hx, r1⟩ := hS.obj n _ hn
        rw [h1] at e1; cases e1
        cases rb
        exact op_rep pins s σ H _ _ v u Q I rx ry ⟨p1, _, xs, rfl, rfl, hx, by omega, by omega, by rw [sizeLine16, ← r1.length]; exact hc.2.2, fun p hp => new_lst hS (r1.rep _) hp q⟩
      · cases e
    · cases e
  · rename_i l j
    split at e
    · rename_i hc
      cases e
      obtain ⟨p1, xs, rfl, h1, r1⟩ := ra
      cases rb
      exact op_repT pins s σ H _ _ v u Q I rx ry ⟨p1, _, xs, rfl, rfl, h1.sq, fun e => hc.1 (r1.nil_iff.mpr e), hc.2.1, hc.2.2.1, by rw [← r1.length]; exact hc.2.2.2, fun p hp => new_tup hS (r1.rep _) hp q⟩
    · cases e
  · cases e
noncomputable def fdivD : G2 := fun _ a b => match a, b with
  | .int i, .int j => if j ≠ 0 ∧ Sm 8000 j then some (.int (i.fdiv j)) else none
  | _, _ => none
theorem opD_fdiv : OpR X (binaryOp .FloorDiv) (rD X.K fdivD) := by
  intro pins s σ H x y v u Q I rx ry ⟨ρ, S, a, b, z, hS, ra, rb, e, q⟩
  unfold fdivD at e
  split at e
  · split at e
    · rename_i i j hc
      cases e; cases ra; cases rb
      obtain ⟨t, rfl⟩ := rx
      obtain ⟨t', rfl⟩ := ry
      exact floordiv_int hc.1 ⟨.int _, H, I.tok _, ⟨_, rfl⟩, q ρ H _ hS .refl rfl⟩ (.inl (PyProof.noPylong_of_log2 (Nat.lt_trans (PySem.Flt.log2_lt_of (by decide) hc.2) (by decide))))
    · cases e
  · cases e
def modD : G2 := fun _ a b => match a, b with
  | .int i, .int j => if j ≠ 0 then some (.int (i.fmod j)) else none
  | _, _ => none
theorem opD_mod : OpR X (binaryOp .Mod) (rD X.K modD) := by
  intro pins s σ H x y v u Q I rx ry ⟨ρ, S, a, b, z, hS, ra, rb, e, q⟩
  unfold modD at e
  split at e
  · split at e
    · rename_i i j hc
      cases e; cases ra; cases rb
      exact op_modN pins s σ H _ _ v u Q I rx ry ⟨_, _, rfl, rfl, hc, q ρ H _ hS .refl rfl⟩
    · cases e
  · cases e
noncomputable def powD : G2 := fun _ a b => match a, b with
  | .int i, .int j => if 0 ≤ j ∧ j ≤ 100 ∧ Sm 60000 i then some (.int (i ^ j.toNat)) else none
  | _, _ => none
theorem opD_pow : OpR X (binaryOp .Pow) (rD X.K powD) := by
  intro pins s σ H x y v u Q I rx ry ⟨ρ, S, a, b, z, hS, ra, rb, e, q⟩
  unfold powD at e
  split at e
  · split at e
    · rename_i i j hc
      cases e; cases ra; cases rb
      obtain ⟨t, rfl⟩ := rx
      obtain ⟨t', rfl⟩ := ry
      refine pow_int hc.1 ?_ ⟨.int _, H, I.tok _, ⟨_, rfl⟩, q ρ H _ hS .refl rfl⟩
      have h1 := intBits_le hc.2.2 (by decide)
      have h2 : (Builtin.Int.intBits i : Int) * j ≤ 60000 * 100 := by
        refine Int.mul_le_mul h1 hc.2.1 hc.1 (by decide)
      exact Int.le_trans h2 (by decide)
    · cases e
  · cases e
noncomputable def shlD : G2 := fun _ a b => match a, b with
  | .int i, .int j => if 0 ≤ j ∧ j ≤ 10000 ∧ Sm 60000 i then some (.int (i * 2 ^ j.toNat)) else none
  | _, _ => none
theorem opD_shl : OpR X (binaryOp .LShift) (rD X.K shlD) := by
  intro pins s σ H x y v u Q I rx ry ⟨ρ, S, a, b, z, hS, ra, rb, e, q⟩
  unfold shlD at e
  split at e
  · split at e
    · rename_i i j hc
      cases e; cases ra; cases rb
      obtain ⟨t, rfl⟩ := rx
      obtain ⟨t', rfl⟩ := ry
      refine lshift_int hc.1 ?_ ⟨.int _, H, I.tok _, ⟨_, rfl⟩, q ρ H _ hS .refl rfl⟩
      have h1 := intBits_le hc.2.2 (by decide)
      have : (2 : Int) ^ 27 = 134217728 := by decide
      omega
    · cases e
  · cases e
def negD : G1 := fun _ a => match a with
  | .int i => some (.int (-i))
  | _ => none
theorem unD_neg : UnR X (unaryOp .USub) (rD1 X.K negD) := by
  intro pins s σ H x v Q I rx ⟨ρ, S, a, z, hS, ra, e, q⟩
  unfold negD at e
  split at e
  · cases e; cases ra
    exact un_neg pins s σ H _ v Q I rx ⟨_, rfl, q ρ H _ hS .refl rfl⟩
  · cases e
/-! ### comparisons -/
def cmpD (f : Int → Int → Bool) : G2 := fun _ a b => match a, b with
  | .int i, .int j => some (.bl (f i j))
  | _, _ => none
theorem opD_cmp {op : CmpOp} {f : Int → Int → Bool} (h : OpR X (compareOp op) (rI0 fun i j => .bl (f i j))) : OpR X (compareOp op) (rD X.K (cmpD f)) := by
  intro pins s σ H x y v u Q I rx ry ⟨ρ, S, a, b, z, hS, ra, rb, e, q⟩
  unfold cmpD at e
  split at e
  · cases e; cases ra; cases rb
    exact h pins s σ H _ _ v u Q I rx ry ⟨_, _, rfl, rfl, q ρ H _ hS .refl rfl⟩
  · cases e
abbrev ltD : G2 := cmpD fun i j => decide (i < j)
abbrev leD : G2 := cmpD fun i j => decide (i ≤ j)
abbrev gtD : G2 := cmpD fun i j => decide (j < i)
abbrev geD : G2 := cmpD fun i j => decide (j ≤ i)
theorem opD_lt : OpR X (compareOp .Lt) (rD X.K ltD) := opD_cmp op_lt
theorem opD_le : OpR X (compareOp .LtE) (rD X.K leD) := opD_cmp op_le
theorem opD_gt : OpR X (compareOp .Gt) (rD X.K gtD) := opD_cmp op_gt
theorem opD_ge : OpR X (compareOp .GtE) (rD X.K geD) := opD_cmp op_ge
end
/-! ### == -/
mutual
def D.py : D → PyData
  | .non => .none
  | .bl b => .bool b
  | .int i => .int i
  | .str x => .str x
  | .tup l => .tuple (D.pys l)
  | .lst l => .list (D.pys l)
  | .wls l => .list (D.pys l)
  | .loc _ => .dict []
  | .gl _ => .dict []
  | .ty _ => .dict []
def D.pys : List D → List PyData
  | [] => []
  | d :: ds => D.py d :: D.pys ds
end
def der (S : Sto) : D → D
  | .loc n => match S[n]? with
    | some (.lst l) => .lst l
    | _ => .loc n
  | d => d
section
variable {K : PySem.W.Frag} {ρ : Rho} {S : Sto} {H : Hp}
mutual
theorem Rp.dp : ∀ (d : D) (v : V), Rp K ρ H d v → d.py.canLay0 = true → Dp K H v d.py
  | .non, v, h, _ => by cases h; exact .non
  | .bl b, v, h, _ => by cases h; exact .bl b
  | .int i, v, h, _ => by cases h; exact .int i
  | .str x, v, h, _ => by cases h; exact .str x
  | .tup l, v, h, c => by
    obtain ⟨p, vs, rfl, h1, h2⟩ := h
    exact .tup h1.sq (Rps.dp l vs h2 (by simpa [D.py, PyData.canLay0] using c))
  | .lst l, v, h, c => by
    obtain ⟨p, vs, rfl, h1, _, h2⟩ := h
    exact .lst (SqL.of h1) (Rps.dp l vs h2 (by simpa [D.py, PyData.canLay0] using c))
  | .wls l, v, h, c => by
    obtain ⟨p, vs, rfl, h1, h2⟩ := h
    exact .lst h1.sq (Rps.dp l vs h2 (by simpa [D.py, PyData.canLay0] using c))
  | .loc n, v, h, c => by simp [D.py, PyData.canLay0] at c
  | .gl n, v, h, c => by simp [D.py, PyData.canLay0] at c
  | .ty n, v, h, c => by simp [D.py, PyData.canLay0] at c
theorem Rps.dp : ∀ (ds : List D) (vs : List V), Rps K ρ H ds vs → PyData.canLayAll0 (D.pys ds) = true → DpAll K H vs (D.pys ds)
  | [], vs, h, _ => by cases h; exact .nil
  | d :: ds, vs, h, c => by
    obtain ⟨v, r, rfl, h1, h2⟩ := h
    have c' : d.py.canLay0 = true ∧ PyData.canLayAll0 (D.pys ds) = true := by simpa [D.pys, PyData.canLayAll0] using c
    exact .cons (Rp.dp d v h1 c'.1) (Rps.dp ds r h2 c'.2)
end
theorem der_dp {d : D} {v : V} (hS : SOk K ρ S H) (h : Rp K ρ H d v) (c : (der S d).py.canLay0 = true) : Dp K H v (der S d).py := by
  cases d with
  | loc n =>
    unfold der at c ⊢
    simp only at c ⊢
    split at c
    · rename_i l hn
      obtain ⟨p1, rfl, h1⟩ := h
      obtain ⟨a1, e1, xs, hx, r1⟩ := hS.obj n _ hn
      rw [h1] at e1; cases e1
      exact .lst (SqL.of hx) (Rps.dp l xs r1 (by simpa [D.py, PyData.canLay0] using c))
    · simp [D.py, PyData.canLay0] at c
  | _ => exact Rp.dp _ v h c
end
def eqD : G2 := fun S a b => if SeqAt.shaped (der S a).py = true ∧ SeqAt.shaped (der S b).py = true then some (.bl (PyData.eqv (der S a).py (der S b).py)) else none
def neD : G2 := fun S a b => if SeqAt.shaped (der S a).py = true ∧ SeqAt.shaped (der S b).py = true then some (.bl (!PyData.eqv (der S a).py (der S b).py)) else none
section
variable {X : Cx}
theorem opD_eq (hu : X.A.units + 64 < cLine) : OpR X (compareOp .Eq) (rD X.K eqD) := by
  intro pins s σ H x y v u Q I rx ry ⟨ρ, S, a, b, z, hS, ra, rb, e, q⟩
  unfold eqD at e
  split at e
  · rename_i hc
    cases e
    exact op_eqD hu pins s σ H x y v u Q I rx ry ⟨_, _, der_dp hS ra (SeqAt.canLay_of_shaped hc.1), der_dp hS rb (SeqAt.canLay_of_shaped hc.2), hc.1, hc.2, q ρ H _ hS .refl rfl⟩
  · cases e
theorem opD_ne (hu : X.A.units + 64 < cLine) : OpR X (compareOp .NotEq) (rD X.K neD) := by
  intro pins s σ H x y v u Q I rx ry ⟨ρ, S, a, b, z, hS, ra, rb, e, q⟩
  unfold neD at e
  split at e
  · rename_i hc
    cases e
    exact op_neD hu pins s σ H x y v u Q I rx ry ⟨_, _, der_dp hS ra (SeqAt.canLay_of_shaped hc.1), der_dp hS rb (SeqAt.canLay_of_shaped hc.2), hc.1, hc.2, q ρ H _ hS .refl rfl⟩
  · cases e
/-! ### is -/
def D.isNon : D → Bool
  | .non => true
  | _ => false
def D.isBl (c : Bool) : D → Bool
  | .bl d => decide (d = c)
  | _ => false
def isB (a b : D) : Option Bool := match b with
  | .non => some a.isNon
  | .bl c => some (a.isBl c)
  | _ => none
def isD : G2 := fun _ a b => (isB a b).map .bl
def isnD : G2 := fun _ a b => (isB a b).map fun c => .bl (!c)
theorem Rp.ne_non {K : PySem.W.Frag} {ρ : Rho} {H : Hp} {a : D} {x : V} (h : Rp K ρ H a x) : decide (x = V.non) = a.isNon := by
  cases a with
  | tup l => obtain ⟨p, vs, rfl, _⟩ := h; rfl
  | lst l => obtain ⟨p, vs, rfl, _⟩ := h; rfl
  | wls l => obtain ⟨p, vs, rfl, _⟩ := h; rfl
  | loc n => obtain ⟨p, rfl, _⟩ := h; rfl
  | _ => cases h; rfl
theorem relv_isb {x : V} {v : Value} {c : Bool} (r : L2.RelV x v) : (v = Value.bool c) ↔ x = .bl c := by
  cases x with
  | non => cases r; simp
  | bl b => cases r; simp
  | int i => obtain ⟨t, rfl⟩ := r; simp
  | str i => obtain ⟨t, rfl⟩ := r; simp
  | byt i => obtain ⟨t, rfl⟩ := r; simp
  | flt i => obtain ⟨t, rfl⟩ := r; simp
  | ref a => cases r; simp
  | ty n => cases r; simp
theorem plain_bl {x : V} {v : Value} {c : Bool} (r : L2.RelV x v) : plainIs v (.bool c) = true := by
  cases x with
  | non => cases r; rfl
  | bl b => cases r; rfl
  | int i => obtain ⟨t, rfl⟩ := r; rfl
  | str i => obtain ⟨t, rfl⟩ := r; rfl
  | byt i => obtain ⟨t, rfl⟩ := r; rfl
  | flt i => obtain ⟨t, rfl⟩ := r; rfl
  | ref a => cases r; rfl
  | ty n => cases r; rfl
theorem Rp.is_bl {K : PySem.W.Frag} {ρ : Rho} {H : Hp} {a : D} {x : V} {c : Bool} (h : Rp K ρ H a x) : decide (x = V.bl c) = a.isBl c := by
  cases a with
  | tup l => obtain ⟨p, vs, rfl, _⟩ := h; rfl
  | lst l => obtain ⟨p, vs, rfl, _⟩ := h; rfl
  | wls l => obtain ⟨p, vs, rfl, _⟩ := h; rfl
  | loc n => obtain ⟨p, rfl, _⟩ := h; rfl
  | bl d => cases h; simp [D.isBl]
  | _ => cases h; rfl
end
end Mi

namespace Mi
open PySem PySem.Spec PyProof.Rows L2
section
variable {X : Cx}
theorem opD_is : OpR X (compareOp .Is) (rD X.K isD) := by
  intro pins s σ H x y v u Q I rx ry ⟨ρ, S, a, b, z, hS, ra, rb, e, q⟩
  unfold isD isB at e
  split at e
  · cases e; cases rb
    exact op_isN pins s σ H _ _ v u Q I rx ry ⟨rfl, by rw [ra.ne_non]; exact q ρ H _ hS .refl rfl⟩
  · rename_i c
    cases e; cases rb; cases ry
    refine wpAny_is_plain (plain_bl rx) ⟨.bl _, H, I, rfl, ?_⟩
    have e1 : (v == Value.bool c) = decide (x = V.bl c) := by
      rw [Bool.eq_iff_iff]; simp [relv_isb rx]
    rw [e1, ra.is_bl]
    exact q ρ H _ hS .refl rfl
  · cases e
theorem opD_isn : OpR X (compareOp .IsNot) (rD X.K isnD) := by
  intro pins s σ H x y v u Q I rx ry ⟨ρ, S, a, b, z, hS, ra, rb, e, q⟩
  unfold isnD isB at e
  split at e
  · cases e; cases rb
    exact op_notN pins s σ H _ _ v u Q I rx ry ⟨rfl, by rw [ra.ne_non]; exact q ρ H _ hS .refl rfl⟩
  · rename_i c
    cases e; cases rb; cases ry
    refine wpAny_isNot_plain (plain_bl rx) ⟨.bl _, H, I, rfl, ?_⟩
    have e1 : (v == Value.bool c) = decide (x = V.bl c) := by
      rw [Bool.eq_iff_iff]; simp [relv_isb rx]
    rw [e1, ra.is_bl]
    exact q ρ H _ hS .refl rfl
  · cases e
end
/-! ### in: data in a list; flat data in a tuple -/
def D.flat : D → Bool
  | .non => true
  | .bl _ => true
  | .int _ => true
  | .str _ => true
  | _ => false
def inB (S : Sto) (a b : D) : Option Bool := match der S b with
  | .lst l => if SeqAt.shaped a.py = true ∧ SeqAt.shaped (.list (D.pys l)) = true then some ((D.pys l).any fun z => PyData.eqv z a.py) else none
  | .wls l => if SeqAt.shaped a.py = true ∧ SeqAt.shaped (.list (D.pys l)) = true then some ((D.pys l).any fun z => PyData.eqv z a.py) else none
  | .tup l => if a.flat = true ∧ l.all D.flat = true then some (l.any fun z => PyData.eqv z.py a.py) else none
  | _ => none
def inD : G2 := fun S a b => (inB S a b).map .bl
def ninD : G2 := fun S a b => (inB S a b).map fun c => .bl (!c)
section
variable {K : PySem.W.Frag} {ρ : Rho} {S : Sto} {H : Hp}
theorem Rp.flatV {d : D} {v : V} (h : Rp K ρ H d v) (f : d.flat = true) : flatV v = true := by
  cases d <;> first | (cases h; rfl) | (simp [D.flat] at f)
theorem Rps.flatV : ∀ {ds : List D} {vs : List V}, Rps K ρ H ds vs → ds.all D.flat = true → vs.all L2.flatV = true
  | [], _, h, _ => by cases h; rfl
  | d :: ds, _, h, f => by
    obtain ⟨v, r, rfl, h1, h2⟩ := h
    rw [List.all_cons, Bool.and_eq_true] at f
    rw [List.all_cons, h1.flatV f.1, Rps.flatV h2 f.2]; rfl
theorem Rp.eqV {d e : D} {v u : V} (h : Rp K ρ H d v) (k : Rp K ρ H e u) (f : d.flat = true) (g : e.flat = true) : eqV v u = PyData.eqv d.py e.py := by
  cases d <;> first
    | (simp [D.flat] at f; done)
    | (cases h; cases e <;> first
        | (simp [D.flat] at g; done)
        | (cases k; rfl))
theorem Rps.inV : ∀ {ds : List D} {vs : List V} {e : D} {u : V}, Rps K ρ H ds vs → Rp K ρ H e u → ds.all D.flat = true → e.flat = true → L2.inV u vs = ds.any fun z => PyData.eqv z.py e.py
  | [], _, _, _, h, _, _, _ => by cases h; rfl
  | d :: ds, _, e, u, h, k, f, g => by
    obtain ⟨v, r, rfl, h1, h2⟩ := h
    rw [List.all_cons, Bool.and_eq_true] at f
    have ih := Rps.inV h2 k f.2 g
    unfold L2.inV at ih ⊢
    rw [List.any_cons, List.any_cons, h1.eqV k f.1 g, ih]
end
section
variable {X : Cx}
theorem inB_ok {pins : List (Addr × Obj)} {s : Shared} {σ : L2.St} {H : Hp} {x y : V} {v u : Value} {Q : VK} {ρ : Rho} {S : Sto} {a b : D} {c : Bool} (hu : X.A.units + 65 < cLine) (I : Inv X pins σ H s) (rx : RelV x v) (ry : RelV y u)
    (hS : SOk X.K ρ S H) (ra : Rp X.K ρ H a x) (rb : Rp X.K ρ H b y) (e : inB S a b = some c) :
    (Q (.bl c) H → wpAny (model X.prog X.w) X.A (compareOp .In v u) (EP X pins σ Q) X.xe s) ∧ (Q (.bl (!c)) H → wpAny (model X.prog X.w) X.A (compareOp .NotIn v u) (EP X pins σ Q) X.xe s) := by
  unfold inB at e
  have lists : ∀ l : List D, (der S b = .lst l ∨ der S b = .wls l) → SeqAt.shaped a.py = true → SeqAt.shaped (.list (D.pys l)) = true → c = ((D.pys l).any fun z => PyData.eqv z a.py) →
      (Q (.bl c) H → wpAny (model X.prog X.w) X.A (compareOp .In v u) (EP X pins σ Q) X.xe s) ∧ (Q (.bl (!c)) H → wpAny (model X.prog X.w) X.A (compareOp .NotIn v u) (EP X pins σ Q) X.xe s) := by
    intro l hd h1 h2 hc
    have e1 : (der S b).py = .list (D.pys l) := by rcases hd with q | q <;> rw [q] <;> rfl
    have d1 := ra.dp _ _ (SeqAt.canLay_of_shaped h1)
    have d2 := der_dp hS rb (by rw [e1]; exact SeqAt.canLay_of_shaped h2)
    rw [e1] at d2
    subst hc
    exact ⟨fun q => op_inD hu pins s σ H x y v u Q I rx ry ⟨_, _, d1, d2, h1, h2, q⟩, fun q => op_notInD hu pins s σ H x y v u Q I rx ry ⟨_, _, d1, d2, h1, h2, q⟩⟩
  split at e
  · rename_i l hd
    split at e
    · rename_i hc
      exact lists l (.inl hd) hc.1 hc.2 (Option.some.inj e).symm
    · cases e
  · rename_i l hd
    split at e
    · rename_i hc
      exact lists l (.inr hd) hc.1 hc.2 (Option.some.inj e).symm
    · cases e
  · rename_i l hd
    split at e
    · rename_i hc
      have hb : b = .tup l := by
        cases b with
        | loc n =>
          unfold der at hd
          simp only at hd
          split at hd <;> cases hd
        | _ => exact hd
      subst hb
      obtain ⟨p, vs, rfl, h1, h2⟩ := rb
      have e1 := h2.inV ra hc.2 hc.1
      have e2 := Option.some.inj e
      refine ⟨fun q => op_in_seq pins s σ H x _ v u Q I rx ry ⟨p, vs, rfl, .inr h1.sq, ra.flatV hc.1, h2.flatV hc.2, ?_⟩, fun q => op_notIn_seq pins s σ H x _ v u Q I rx ry ⟨p, vs, rfl, .inr h1.sq, ra.flatV hc.1, h2.flatV hc.2, ?_⟩⟩
      · rw [if_neg (by decide), e1, e2]; exact q
      · rw [if_pos rfl, e1, e2]; exact q
    · cases e
  · cases e
theorem opD_in (hu : X.A.units + 65 < cLine) : OpR X (compareOp .In) (rD X.K inD) := by
  intro pins s σ H x y v u Q I rx ry ⟨ρ, S, a, b, z, hS, ra, rb, e, q⟩
  unfold inD at e
  cases hc : inB S a b with
  | none => rw [hc] at e; cases e
  | some c =>
    rw [hc] at e; cases e
    exact (inB_ok (Q := Q) hu I rx ry hS ra rb hc).1 (q ρ H _ hS .refl rfl)
theorem opD_nin (hu : X.A.units + 65 < cLine) : OpR X (compareOp .NotIn) (rD X.K ninD) := by
  intro pins s σ H x y v u Q I rx ry ⟨ρ, S, a, b, z, hS, ra, rb, e, q⟩
  unfold ninD at e
  cases hc : inB S a b with
  | none => rw [hc] at e; cases e
  | some c =>
    rw [hc] at e; cases e
    exact (inB_ok (Q := Q) hu I rx ry hS ra rb hc).2 (q ρ H _ hS .refl rfl)
end

/-! ### subscripts -/
def keyD : D → Option Key
  | .int i => some (.inl i)
  | .str x => some (.inr x)
  | _ => none
def keysD : List D → Option (List Key)
  | [] => some []
  | d :: ds => (keyD d).bind fun k => (keysD ds).map fun ks => k :: ks
def valD {κ : Type} [DecidableEq κ] (l : List (κ × D)) (k : κ) : Option D := (l.find? fun kv => decide (kv.1 = k)).map (·.2)
def intD : D → Option Int
  | .int i => some i
  | _ => none
def ixD : G2 := fun S a b => match a with
  | .tup l => (intD b).bind (atI l)
  | .lst l => (intD b).bind (atI l)
  | .wls l => (intD b).bind (atI l)
  | .loc n => match S[n]? with
    | some (.lst l) => (intD b).bind (atI l)
    | some (.dct l) => (keyD b).bind (valD l)
    | _ => none
  | .str x => if x.length ≤ 16777216 then ((intD b).bind (atI x.cps.toList)).map fun c => .str ⟨#[c]⟩ else none
  | _ => none
section
variable {K : PySem.W.Frag} {ρ : Rho} {S : Sto} {H : Hp}
theorem Rps.atI {l : List D} {vs : List V} {i : Int} {d : D} (h : Rps K ρ H l vs) (e : L2.atI l i = some d) : ∃ v, L2.atI vs i = some v ∧ Rp K ρ H d v := by
  unfold L2.atI at e ⊢
  rw [← h.length]
  cases q : ixN l.length i with
  | none => rw [q] at e; cases e
  | some j =>
    rw [q] at e
    exact h.get e
theorem Rp.key {b : D} {y : V} {k : Key} (h : Rp K ρ H b y) (e : keyD b = some k) : y = kV k := by
  cases b with
  | int i => cases e; exact h
  | str x => cases e; exact h
  | _ => cases e
theorem Rps.keys : ∀ {l : List D} {vs : List V} {ks : List Key}, Rps K ρ H l vs → keysD l = some ks → vs = ks.map kV
  | [], _, _, h, e => by cases h; cases e; rfl
  | d :: ds, _, ks, h, e => by
    obtain ⟨v, r, rfl, h1, h2⟩ := h
    unfold keysD at e
    cases hk : keyD d with
    | none => rw [hk] at e; cases e
    | some k =>
      rw [hk] at e
      cases hks : keysD ds with
      | none => rw [hks] at e; cases e
      | some ks' =>
        rw [hks] at e
        cases e
        rw [h1.key hk, Rps.keys h2 hks]; rfl
theorem KVs.val {κ : Type} [DecidableEq κ] : ∀ {l : List (κ × D)} {vs : List (κ × V)} {k : κ} {d : D}, KVs K ρ H l vs → valD l k = some d → ∃ v, valV vs k = some v ∧ Rp K ρ H d v
  | [], _, _, _, h, e => by cases e
  | (k0, d0) :: ds, _, k, d, h, e => by
    obtain ⟨v, r, rfl, h1, h2⟩ := h
    unfold valD at e
    unfold valV
    rw [List.find?_cons] at e ⊢
    by_cases q : k0 = k
    · subst q
      simp only [decide_true, Option.map_some, Option.some.injEq] at e ⊢
      subst e
      exact ⟨v, rfl, h1⟩
    · rw [decide_eq_false q] at e
      simp only [decide_eq_false q] at e ⊢
      exact KVs.val h2 e
end
theorem Rp.int' {K : PySem.W.Frag} {ρ : Rho} {H : Hp} {b : D} {y : V} {α : Type} {f : Int → Option α} {z : α} (h : Rp K ρ H b y) (e : (intD b).bind f = some z) : ∃ i, y = .int i ∧ f i = some z := by
  cases b with
  | int i => exact ⟨i, h, e⟩
  | _ => cases e
section
variable {X : Cx}
theorem ixD_ok (hu : X.A.units + 1 < cLine) : IxR X (rD X.K ixD) := by
  intro value slice pins s σ H x y v u Q I rx ry ⟨ρ, S, a, b, z, hS, ra, rb, e, q⟩ hs
  unfold ixD at e
  have lists : ∀ (p1 : Addr) (xs : List V) (l : List D), x = .ref p1 → (SqL X.K H p1 xs ∨ SqT X.K H p1 xs) → Rps X.K ρ H l xs → (intD b).bind (L2.atI l) = some z → wpAny (model X.prog X.w) X.A (subscriptTail value slice v u) (EP X pins σ Q) X.xe s := by
    intro p1 xs l ex h1 r1 e
    subst ex
    obtain ⟨i, rfl, e⟩ := rb.int' e
    obtain ⟨w, e1, r2⟩ := r1.atI e
    rcases h1 with h1 | h1
    · exact ix_list value slice pins s σ H _ _ v u Q I rx ry ⟨p1, xs, _, w, rfl, rfl, h1, e1, q ρ H _ hS .refl r2⟩ hs
    · exact ix_tup value slice pins s σ H _ _ v u Q I rx ry ⟨p1, xs, _, w, rfl, rfl, h1, e1, q ρ H _ hS .refl r2⟩ hs
  cases a with
  | tup l =>
    obtain ⟨p1, xs, ex, h1, r1⟩ := ra
    exact lists p1 xs l ex (.inr h1.sq) r1 e
  | lst l =>
    obtain ⟨p1, xs, ex, h1, _, r1⟩ := ra
    exact lists p1 xs l ex (.inl (SqL.of h1)) r1 e
  | wls l =>
    obtain ⟨p1, xs, ex, h1, r1⟩ := ra
    exact lists p1 xs l ex (.inl h1.sq) r1 e
  | loc n =>
    obtain ⟨p1, ex, h1⟩ := ra
    simp only at e
    split at e
    · rename_i l hn
      obtain ⟨a1, e1, xs, hx, r1⟩ := hS.obj n _ hn
      rw [h1] at e1; cases e1
      exact lists p1 xs l ex (.inl (SqL.of hx)) r1 e
    · rename_i l hn
      obtain ⟨a1, e1, xs, hx, r1⟩ := hS.obj n _ hn
      rw [h1] at e1; cases e1
      subst ex
      cases hk : keyD b with
      | none => rw [hk] at e; cases e
      | some k =>
        rw [hk] at e
        obtain ⟨w, e2, r2⟩ := r1.val e
        have ey := rb.key hk
        subst ey
        have g : DGet H p1 (kV k) (some w) := by
          rw [← e2]
          exact DGet.k hx
        cases rx
        exact PyProof.Rows.tail_any (dict_typeIs I g) PySem.F.slot_dict_getitem.lookup (d_getItem hu I g ry fun w' s3 I3 rw2 => ⟨w, H, I3, rw2, q ρ H w hS .refl r2⟩) hs
    · cases e
  | str x1 =>
    simp only at e
    split at e
    · rename_i hl
      cases hc : (intD b).bind (L2.atI x1.cps.toList) with
      | none => rw [hc] at e; cases e
      | some c =>
        rw [hc] at e; cases e; cases ra
        obtain ⟨i, rfl, hc⟩ := rb.int' hc
        exact ix_str value slice pins s σ H _ _ v u Q I rx ry ⟨x1, i, c, rfl, rfl, by rw [sizeLine16]; exact hl, hc, q ρ H _ hS .refl rfl⟩ hs
    · cases e
  | _ => cases e
theorem d_ix {W : WX} {a b : Expr} {ma mb : TM} {pos : Pos} (hu : X.A.units + 1 < cLine) (ha : DE X W a ma) (hb : DE X W b mb) (hs : PlainIx b) : DE X W (.Subscript a b pos) (mOp ixD ma mb) :=
  ⟨PE.imp (pe_ix (ixD_ok hu) ha.p hb.p hs) fun σ H Q h => of_op h⟩
end
end Mi

namespace Mi
open PySem PySem.Spec PyProof.Rows L2
/-! ### tests -/
def bVal (m : TM) : BM := fun env S => (m env S).bind fun a S1 => match a with
  | .bl b => .ok b S1
  | _ => .bad
def bAnd (m n : BM) : BM := fun env S => (m env S).bind fun a S1 => if a = true then n env S1 else .ok false S1
def bOr (m n : BM) : BM := fun env S => (m env S).bind fun a S1 => if a = true then .ok true S1 else n env S1
def bNot (m : BM) : BM := fun env S => (m env S).bind fun a S1 => .ok (!a) S1
def mAnd (m n : TM) : TM := fun env S => (m env S).bind fun a S1 => match a with
  | .bl true => n env S1
  | .bl false => .ok (.bl false) S1
  | _ => .bad
def mOr (m n : TM) : TM := fun env S => (m env S).bind fun a S1 => match a with
  | .bl true => .ok (.bl true) S1
  | .bl false => n env S1
  | _ => .bad
def mNot (m : TM) : TM := fun env S => (m env S).bind fun a S1 => match a with
  | .bl b => .ok (.bl (!b)) S1
  | _ => .bad
def mIf (t : BM) (m n : TM) : TM := fun env S => (t env S).bind fun a S1 => if a = true then m env S1 else n env S1
structure DW (X : Cx) (W : WX) (e : Expr) (m : BM) : Prop where
  p : PW X e (tT X.K W m)
section
variable {X : Cx} {W : WX} {a b c : Expr} {ma mb mc : TM} {ba bb : BM} {pos : Pos} {rest : List Expr}
theorem of_val {K : PySem.W.Frag} {m : TM} {σ : L2.St} {H : Hp} {Q : Bool → Hp → Prop} (h : tT K W (bVal m) σ H Q) : tTest (tE K W m) σ H Q := by
  obtain ⟨ρ, S, env, hS, hE, h⟩ := h
  refine Post.bindK hS hE h fun x H1 ρ1 S1 d1 hS1 hE1 st1 r1 h1 => ?_
  cases d1 with
  | bl b => cases r1; exact ⟨b, rfl, h1 ρ1 H1 b hS1 .refl rfl⟩
  | _ => exact h1.elim
theorem t_cmp {op : CmpOp} {g : G2} (ho : OpR X (compareOp op) (rD X.K g)) (ha : DE X W a ma) (hb : DE X W b mb) (hm : behindInMarks op b = false) : DT X W (.Compare a [op] [b] pos) (bVal (mOp g ma mb)) :=
  ⟨PT.imp (pt_cmpR ho ha.p hb.p hm) fun σ H Q h => of_op (of_val h)⟩
theorem t_val (h : DE X W a ma) (he : ∀ whole, isTrue a X.env whole = (do let v ← whole; standAt a.pos; holding [v] (truthy v)) := by intro _; rfl) : DT X W a (bVal ma) :=
  ⟨PT.imp (pt_val h.p he) fun σ H Q h => of_val h⟩
theorem t_not (h : DT X W a ba) : DT X W (.UnaryOp .Not a pos) (bNot ba) :=
  ⟨PT.imp (pt_not h.p) fun σ H Q ⟨ρ, S, env, hS, hE, h⟩ => Post.bindK hS hE h fun x H1 ρ1 S1 d1 hS1 hE1 st1 r1 h1 => by cases r1; exact h1 ρ1 H1 _ hS1 .refl rfl⟩
theorem w_and1 (h : DT X W a ba) : DW X W (.BoolOp .And [a] pos) ba := ⟨pw_and1 h.p⟩
theorem w_or1 (h : DT X W a ba) : DW X W (.BoolOp .Or [a] pos) ba := ⟨pw_or1 h.p⟩
theorem w_and (h : DT X W a ba) (k : DW X W (.BoolOp .And (b :: rest) pos) bb) : DW X W (.BoolOp .And (a :: b :: rest) pos) (bAnd ba bb) :=
  ⟨PW.imp (pw_and h.p k.p) fun σ H Q ⟨ρ, S, env, hS, hE, h⟩ => Post.bindK hS hE h fun x H1 ρ1 S1 d1 hS1 hE1 st1 r1 h1 => by
    cases r1
    cases x with
    | true => exact ⟨ρ1, S1, env, hS1, hE1, h1⟩
    | false => exact h1 ρ1 H1 _ hS1 .refl rfl⟩
theorem w_or (h : DT X W a ba) (k : DW X W (.BoolOp .Or (b :: rest) pos) bb) : DW X W (.BoolOp .Or (a :: b :: rest) pos) (bOr ba bb) :=
  ⟨PW.imp (pw_or h.p k.p) fun σ H Q ⟨ρ, S, env, hS, hE, h⟩ => Post.bindK hS hE h fun x H1 ρ1 S1 d1 hS1 hE1 st1 r1 h1 => by
    cases r1
    cases x with
    | true => exact h1 ρ1 H1 _ hS1 .refl rfl
    | false => exact ⟨ρ1, S1, env, hS1, hE1, h1⟩⟩
theorem t_bool (h : DW X W a ba) : DT X W a ba := ⟨h.p.pt⟩
/-- .. as values -/
theorem d_one {op : BoolOp} (h : DE X W a ma) : DE X W (.BoolOp op [a] pos) ma := ⟨pe_one h.p⟩
theorem d_and (h : DE X W a ma) (k : DE X W (.BoolOp .And (b :: rest) pos) mb) : DE X W (.BoolOp .And (a :: b :: rest) pos) (mAnd ma mb) :=
  ⟨PE.imp (pe_and h.p k.p) fun σ H Q ⟨ρ, S, env, hS, hE, h⟩ => Post.bindK hS hE h fun x H1 ρ1 S1 d1 hS1 hE1 st1 r1 h1 => by
    cases d1 with
    | bl d =>
      cases r1
      cases d with
      | true => exact ⟨true, rfl, ρ1, S1, env, hS1, hE1, h1⟩
      | false => exact ⟨false, rfl, h1 ρ1 H1 (.bl false) hS1 .refl rfl⟩
    | _ => exact h1.elim⟩
theorem d_or (h : DE X W a ma) (k : DE X W (.BoolOp .Or (b :: rest) pos) mb) : DE X W (.BoolOp .Or (a :: b :: rest) pos) (mOr ma mb) :=
  ⟨PE.imp (pe_or h.p k.p) fun σ H Q ⟨ρ, S, env, hS, hE, h⟩ => Post.bindK hS hE h fun x H1 ρ1 S1 d1 hS1 hE1 st1 r1 h1 => by
    cases d1 with
    | bl d =>
      cases r1
      cases d with
      | true => exact ⟨true, rfl, h1 ρ1 H1 (.bl true) hS1 .refl rfl⟩
      | false => exact ⟨false, rfl, ρ1, S1, env, hS1, hE1, h1⟩
    | _ => exact h1.elim⟩
theorem d_not (h : DE X W a ma) : DE X W (.UnaryOp .Not a pos) (mNot ma) :=
  ⟨PE.imp (pe_not h.p) fun σ H Q ⟨ρ, S, env, hS, hE, h⟩ => Post.bindK hS hE h fun x H1 ρ1 S1 d1 hS1 hE1 st1 r1 h1 => by
    cases d1 with
    | bl d => cases r1; exact ⟨d, rfl, h1 ρ1 H1 (.bl (!d)) hS1 .refl rfl⟩
    | _ => exact h1.elim⟩
theorem d_if (hc : DT X W c ba) (ha : DE X W a ma) (hb : DE X W b mb) : DE X W (.IfExp c a b pos) (mIf ba ma mb) :=
  ⟨PE.imp (pe_ifExp hc.p ha.p hb.p) fun σ H Q ⟨ρ, S, env, hS, hE, h⟩ => Post.bindK hS hE h fun x H1 ρ1 S1 d1 hS1 hE1 st1 r1 h1 => by
    cases r1
    cases x with
    | true => exact ⟨ρ1, S1, env, hS1, hE1, h1⟩
    | false => exact ⟨ρ1, S1, env, hS1, hE1, h1⟩⟩
end
/-! ### chains -/
def mChain (g g' : G2) (ma mb mc : TM) : TM := fun env S => (ma env S).bind fun a S1 => (mb env S1).bind fun b S2 => match g S2 a b with
  | some (.bl true) => (mc env S2).bind fun c S3 => R.of (g' S3 b c) S3
  | some (.bl false) => .ok (.bl false) S2
  | _ => .bad
section
variable {X : Cx} {W : WX} {a b c : Expr} {ma mb mc : TM} {pos : Pos}
theorem of_chain {K : PySem.W.Frag} {g g' : G2} {σ : L2.St} {H : Hp} {Q : VK} (h : tE K W (mChain g g' ma mb mc) σ H Q) : tChain (rD K g) (rD K g') (tE K W ma) (tE K W mb) (tE K W mc) σ H Q := by
  obtain ⟨ρ, S, env, hS, hE, h⟩ := h
  refine Post.bindK hS hE h fun x H1 ρ1 S1 d1 hS1 hE1 st1 r1 h1 => ?_
  refine Post.bindK hS1 hE1 h1 fun y H2 ρ2 S2 d2 hS2 hE2 st2 r2 h2 => ?_
  have r1' := r1.step hS1 st2
  cases e : g S2 d1 d2 with
  | none => rw [e] at h2; exact h2.elim
  | some z =>
    rw [e] at h2
    cases z with
    | bl k =>
      refine ⟨ρ2, S2, d1, d2, .bl k, hS2, r1', r2, e, fun ρ3 H3 v hS3 st3 r3 => ?_⟩
      cases r3
      refine ⟨k, rfl, ?_⟩
      cases k with
      | true =>
        rw [if_pos rfl]
        have h3 := h2.step st3
        refine Post.bindK hS3 (hE2.step hS2 st3) h3 fun z H4 ρ4 S4 d4 hS4 hE4 st4 r4 h4 => ?_
        cases e' : g' S4 d2 d4 with
        | none => rw [e'] at h4; exact h4.elim
        | some z' =>
          rw [e'] at h4
          exact ⟨ρ4, S4, d2, d4, z', hS4, (r2.step hS2 st3).step hS3 st4, r4, e', h4⟩
      | false =>
        rw [if_neg Bool.false_ne_true]
        exact h2 ρ3 H3 (.bl false) hS3 st3 rfl
    | _ => exact h2.elim
theorem d_chain {op op' : CmpOp} {g g' : G2} (ho : OpR X (compareOp op) (rD X.K g)) (ho' : OpR X (compareOp op') (rD X.K g')) (ha : DE X W a ma) (hb : DE X W b mb) (hc : DE X W c mc)
    (hm : lastMarks [op, op'] [b, c] = false := by with_unfolding_all rfl) : DE X W (.Compare a [op, op'] [b, c] pos) (mChain g g' ma mb mc) :=
  ⟨PE.imp (pe_chain ho ho' ha.p hb.p hc.p hm) fun σ H Q h => of_chain h⟩
theorem t_chain {op op' : CmpOp} {g g' : G2} (ho : OpR X (compareOp op) (rD X.K g)) (ho' : OpR X (compareOp op') (rD X.K g')) (ha : DE X W a ma) (hb : DE X W b mb) (hc : DE X W c mc)
    (hm : lastMarks [op, op'] [b, c] = false := by with_unfolding_all rfl) : DT X W (.Compare a [op, op'] [b, c] pos) (bVal (mChain g g' ma mb mc)) :=
  ⟨PT.imp (pt_chain ho ho' ha.p hb.p hc.p hm) fun σ H Q h => of_chain (of_val h)⟩
end
/-! ### argument lists, tuples, lists -/
def aNil : AM := fun _ S => .ok [] S
def aCons (m : TM) (n : AM) : AM := fun env S => (m env S).bind fun a S1 => (n env S1).bind fun l S2 => .ok (a :: l) S2
def mTup (n : AM) : TM := fun env S => (n env S).bind fun l S1 => if l.length ≤ 16777216 then .ok (.tup l) S1 else .bad
def mLst (n : AM) : TM := fun env S => (n env S).bind fun l S1 => if l.length ≤ 16777216 then .ok (.lst l) S1 else .bad
/-- a new place of the store -/
def R.new (o : O) (S : Sto) : R D := .ok (.loc S.length) (S ++ [o])
def mNew (n : AM) : TM := fun env S => (n env S).bind fun l S1 => if l.length ≤ 16777216 then R.new (.lst l) S1 else .bad
section
variable {K : PySem.W.Frag} {W : WX} {ρ ρ' : Rho} {S S' : Sto} {H H' : Hp} {σ : L2.St}
def Rho.put (ρ : Rho) (n : Nat) (p : Addr) : Rho := ⟨fun m => if m = n then some p else ρ.m m, ρ.pv⟩
theorem new_step {p : Addr} {o : HO} (hS : SOk K ρ S H) (hp : H p = none) : Stp ρ (ρ.put S.length p) H (upd H p o) where
  up n a h := by
    unfold Rho.put
    simp only
    rw [if_neg (Nat.ne_of_lt (hS.dom n a h))]
    exact h
  new n a h := by
    unfold Rho.put at h
    simp only at h
    split at h
    · cases h; exact .inr hp
    · exact .inl h
  pv _ h := .inl h
  pvu _ h := h
  keep a u h _ := by rw [upd_ne (ne_of_none h hp)]; exact h
  live a h := upd_live h
theorem KVs.step {κ : Type} (hS : SOk K ρ S H) (st : Stp ρ ρ' H H') : ∀ (l : List (κ × D)) (vs : List (κ × V)), KVs K ρ H l vs → KVs K ρ' H' l vs
  | [], _, h => h
  | d :: ds, _, h => by obtain ⟨v, r, e, h1, h2⟩ := h; exact ⟨v, r, e, Rp.step hS st _ _ h1, KVs.step hS st ds r h2⟩
/-- the object at n stays as it is through a step that leaves it -/
theorem OOk.step {a : Addr} {o : O} (hS : SOk K ρ S H) (st : Stp ρ ρ' H H') (e : H' a = H a) (h : OOk K ρ H a o) : OOk K ρ' H' a o := by
  cases o with
  | lst l => obtain ⟨vs, h1, h2⟩ := h; exact ⟨vs, by rw [e]; exact h1, Rps.step hS st l vs h2⟩
  | dct l => obtain ⟨vs, h1, h2⟩ := h; exact ⟨vs, by rw [e]; exact h1, KVs.step hS st l vs h2⟩
  | dcT l => obtain ⟨vs, h1, h2⟩ := h; exact ⟨vs, by rw [e]; exact h1, KVs.step hS st l vs h2⟩
  | ins C l => obtain ⟨dx, vs, h1, h2⟩ := h; exact ⟨dx, vs, by rw [e]; exact h1, KVs.step hS st l vs h2⟩
theorem new_sok {p : Addr} {ho : HO} {o : O} (hS : SOk K ρ S H) (hp : H p = none) (ok : OOk K (ρ.put S.length p) (upd H p ho) p o) : SOk K (ρ.put S.length p) (S ++ [o]) (upd H p ho) := by
  have st : Stp ρ (ρ.put S.length p) H (upd H p ho) := new_step hS hp
  have at_ : (ρ.put S.length p).m S.length = some p := by unfold Rho.put; simp
  refine ⟨fun n m a h1 h2 => ?_, fun n a h => ?_, fun n o' e => ?_, fun a h => ?_⟩
  · unfold Rho.put at h1 h2
    simp only at h1 h2
    split at h1 <;> split at h2
    · omega
    · cases h1
      obtain ⟨u, hu, _⟩ := hS.mk' h2
      rw [hp] at hu; cases hu
    · cases h2
      obtain ⟨u, hu, _⟩ := hS.mk' h1
      rw [hp] at hu; cases hu
    · exact hS.inj n m a h1 h2
  · unfold Rho.put at h
    simp only at h
    rw [List.length_append]
    split at h
    · simp; omega
    · have := hS.dom n a h; simp; omega
  · by_cases hn : n < S.length
    · rw [List.getElem?_append_left hn] at e
      obtain ⟨a, ha, ok'⟩ := hS.obj n o' e
      obtain ⟨u, hu, _⟩ := hS.mk' ha
      exact ⟨a, st.up n a ha, ok'.step hS st (upd_ne (ne_of_none hu hp))⟩
    · have hn' : n = S.length := by
        have := (List.getElem?_eq_some_iff.mp e).1
        simp at this; omega
      subst hn'
      simp at e
      subst e
      exact ⟨p, at_, ok⟩
  · obtain ⟨⟨u, h1, h2⟩, h3⟩ := hS.prv a h
    refine ⟨⟨u, by rw [upd_ne (ne_of_none h1 hp)]; exact h1, h2⟩, fun n z => ?_⟩
    unfold Rho.put at z
    simp only at z
    split at z
    · cases z; rw [hp] at h1; cases h1
    · exact h3 n z
/-- a new list that may change -/
theorem new_loc {p : Addr} {l : List D} {vs : List V} {Q : VK} (hS : SOk K ρ S H) (r : Rps K ρ H l vs) (hp : H p = none)
    (h : Post K W (Rp K) ρ H σ (R.new (.lst l) S) Q) : Q (.ref p) (upd H p (.lst vs)) := by
  have st : Stp ρ (ρ.put S.length p) H (upd H p (.lst vs)) := new_step hS hp
  exact h (ρ.put S.length p) _ (.ref p) (new_sok hS hp ⟨vs, upd_same, Rps.step hS st l vs r⟩) st ⟨p, rfl, by unfold Rho.put; simp⟩
end
section
variable {X : Cx} {W : WX} {a b c : Expr} {ma mb mc : TM} {n : AM} {pos : Pos} {es : List Expr}
theorem a_nil : DA X W [] aNil := ⟨PA.imp pa_nil fun σ H Q ⟨ρ, S, env, hS, hE, h⟩ => h ρ H [] hS .refl rfl⟩
theorem a_cons (h : DE X W a ma) (k : DA X W es n) (hs : starEach (a :: es) X.env = (false, eval a X.env) :: starEach es X.env := by rfl) : DA X W (a :: es) (aCons ma n) :=
  ⟨PA.imp (pa_cons h.p k.p hs) fun σ H Q ⟨ρ, S, env, hS, hE, h⟩ => by
    refine Post.bindK hS hE h fun x H1 ρ1 S1 d1 hS1 hE1 st1 r1 h1 => ?_
    refine Post.bindK hS1 hE1 h1 fun y H2 ρ2 S2 l hS2 hE2 st2 r2 h2 => ?_
    exact h2 ρ2 H2 (x :: y) hS2 .refl ⟨x, y, rfl, r1.step hS1 st2, r2⟩⟩
theorem d_tup {k : Nat} (h : DA X W es n) : DE X W (.Tuple es k pos) (mTup n) :=
  ⟨PE.imp (pe_tup h.p) fun σ H Q ⟨ρ, S, env, hS, hE, h⟩ => by
    refine Post.bindK hS hE h fun y H2 ρ2 S2 l hS2 hE2 st2 r2 h2 => ?_
    split at h2
    · rename_i hl
      exact ⟨by rw [sizeLine16, ← r2.length]; exact hl, fun p hp => new_tup hS2 r2 hp h2⟩
    · exact h2.elim⟩
theorem d_lst (h : DA X W es n) : DE X W (.List es pos) (mLst n) :=
  ⟨PE.imp (pe_lst h.p) fun σ H Q ⟨ρ, S, env, hS, hE, h⟩ => by
    refine Post.bindK hS hE h fun y H2 ρ2 S2 l hS2 hE2 st2 r2 h2 => ?_
    split at h2
    · rename_i hl
      exact ⟨by rw [sizeLine16, ← r2.length]; exact hl, fun p hp => new_lst hS2 r2 hp h2⟩
    · exact h2.elim⟩
theorem d_new (h : DA X W es n) : DE X W (.List es pos) (mNew n) :=
  ⟨PE.imp (pe_lst h.p) fun σ H Q ⟨ρ, S, env, hS, hE, h⟩ => by
    refine Post.bindK hS hE h fun y H2 ρ2 S2 l hS2 hE2 st2 r2 h2 => ?_
    split at h2
    · rename_i hl
      exact ⟨by rw [sizeLine16, ← r2.length]; exact hl, fun p hp => new_loc hS2 r2 hp h2⟩
    · exact h2.elim⟩
end
/-! ### slices -/
def oNone : En → Sto → R (Option Int) := fun _ S => .ok none S
def oSome (m : TM) : En → Sto → R (Option Int) := fun env S => (m env S).bind fun a S1 => match a with
  | .int i => .ok (some i) S1
  | _ => .bad
def relO : Rel (Option Int) (Option Int) := fun _ _ a b => a = b
def cutD (l : List D) (lo hi : Option Int) : List D := (l.drop (HT.sIx l.length 0 lo)).take (HT.sIx l.length l.length hi - HT.sIx l.length 0 lo)
def slD (S : Sto) (a : D) (lo hi : Option Int) : Option D := match der S a with
  | .tup l => some (.tup (cutD l lo hi))
  | .lst l => some (.lst (cutD l lo hi))
  | .wls l => some (.lst (cutD l lo hi))
  | _ => none
def mSl (m : TM) (lo hi : En → Sto → R (Option Int)) : TM := fun env S => (m env S).bind fun a S1 => (lo env S1).bind fun l S2 => (hi env S2).bind fun u S3 => R.of (slD S3 a l u) S3
structure DO (X : Cx) (W : WX) (e : Option Expr) (m : En → Sto → R (Option Int)) : Prop where
  p : PO X e (tG X.K W relO m)
section
variable {X : Cx} {W : WX} {a b c : Expr} {ma mb mc : TM} {n : AM} {pos p2 : Pos} {lo hi : Option Expr} {ml mh : En → Sto → R (Option Int)}
theorem PO.imp {e : Option Expr} {t t' : TO} (h : PO X e t) (i : ∀ σ H Q, t' σ H Q → t σ H Q) : PO X e t' := ⟨fun pins s σ H Q I q => h.run pins s σ H Q I (i σ H Q q)⟩
theorem o_none : DO X W none oNone := ⟨PO.imp po_none fun σ H Q ⟨ρ, S, env, hS, hE, h⟩ => h ρ H none hS .refl rfl⟩
theorem o_some (h : DE X W a ma) : DO X W (some a) (oSome ma) :=
  ⟨PO.imp (po_some h.p) fun σ H Q ⟨ρ, S, env, hS, hE, h⟩ => Post.bindK hS hE h fun x H1 ρ1 S1 d1 hS1 hE1 st1 r1 h1 => by
    cases d1 with
    | int i => cases r1; exact ⟨i, rfl, h1 ρ1 H1 (some i) hS1 .refl rfl⟩
    | _ => exact h1.elim⟩
theorem Rps.cut {K : PySem.W.Frag} {ρ : Rho} {H : Hp} {l : List D} {vs : List V} (h : Rps K ρ H l vs) (lo hi : Option Int) : Rps K ρ H (cutD l lo hi) (cutV vs lo hi) := by
  unfold cutD cutV
  rw [← h.length]
  exact (h.drop _).take _
theorem d_sl (h : DE X W a ma) (hl : DO X W lo ml) (hu : DO X W hi mh) : DE X W (.Subscript a (.Slice lo hi none p2) pos) (mSl ma ml mh) :=
  ⟨PE.imp (pe_slice (SlR.or sl_tupA sl_list) h.p hl.p hu.p) fun σ H Q ⟨ρ, S, env, hS, hE, h⟩ => by
    refine Post.bindK hS hE h fun x H1 ρ1 S1 d1 hS1 hE1 st1 r1 h1 => ?_
    refine Post.bindK hS1 hE1 h1 fun y H2 ρ2 S2 o1 hS2 hE2 st2 r2 h2 => ?_
    refine Post.bindK hS2 hE2 h2 fun z H3 ρ3 S3 o2 hS3 hE3 st3 r3 h3 => ?_
    cases r2; cases r3
    have r1' := (r1.step hS1 st2).step hS2 st3
    cases e : slD S3 d1 y z with
    | none => rw [e] at h3; exact h3.elim
    | some d =>
      rw [e] at h3
      unfold slD at e
      have lists : ∀ (p1 : Addr) (xs : List V) (l : List D), x = .ref p1 → SqL X.K H3 p1 xs → Rps X.K ρ3 H3 l xs → d = .lst (cutD l y z) → rSlL X.K x y z H3 Q := by
        intro p1 xs l ex hx rr ed
        subst ex ed
        exact ⟨p1, xs, rfl, hx, fun p hp => new_lst hS3 (rr.cut y z) hp h3⟩
      cases d1 with
      | tup l =>
        cases e
        obtain ⟨p1, xs, rfl, hx, rr⟩ := r1'
        refine .inl ⟨p1, xs, rfl, hx.sq, fun hw => ?_, fun _ p hp => new_tup hS3 (rr.cut y z) hp h3⟩
        refine h3 ρ3 H3 (.ref p1) hS3 .refl ⟨p1, xs, rfl, hx, ?_⟩
        have : cutD l y z = l := by
          unfold cutD
          rw [rr.length, hw.1, hw.2]
          rw [List.drop_zero, Nat.sub_zero, ← rr.length, List.take_length]
        rw [this]; exact rr
      | lst l =>
        cases e
        obtain ⟨p1, xs, ex, hx, _, rr⟩ := r1'
        exact .inr (lists p1 xs l ex (SqL.of hx) rr rfl)
      | wls l =>
        cases e
        obtain ⟨p1, xs, ex, hx, rr⟩ := r1'
        exact .inr (lists p1 xs l ex hx.sq rr rfl)
      | loc n =>
        obtain ⟨p1, ex, hx⟩ := r1'
        unfold der at e
        simp only at e
        cases hn : S3[n]? with
        | none => rw [hn] at e; cases e
        | some o =>
          rw [hn] at e
          cases o with
          | lst l =>
            cases e
            obtain ⟨a1, e1, xs, hx', rr⟩ := hS3.obj n _ hn
            rw [hx] at e1; cases e1
            exact .inr (lists p1 xs l ex (SqL.of hx') rr rfl)
          | _ => cases e
      | _ => cases e⟩
end
/-! ### built-in functions by values -/
abbrev GL := Sto → List D → Option D
def rL (K : PySem.W.Frag) (g : GL) : List V → Hp → VK → Prop := fun xs H Q => ∃ ρ S ds z, SOk K ρ S H ∧ Rps K ρ H ds xs ∧ g S ds = some z ∧
  ∀ ρ' H' v, SOk K ρ' S H' → Stp ρ ρ' H H' → Rp K ρ' H' z v → Q v H'
def mB (g : GL) (n : AM) : TM := fun env S => (n env S).bind fun ds S1 => R.of (g S1 ds) S1
section
variable {X : Cx} {W : WX} {e : Expr} {es : List Expr} {n : AM} {x : Str} {p pos : Pos} {id T : String} {g : GL}
theorem of_B {K : PySem.W.Frag} {σ : L2.St} {H : Hp} {Q : VK} (h : tE K W (mB g n) σ H Q) : tCB (rL K g) (tA K W n) σ H Q := by
  obtain ⟨ρ, S, env, hS, hE, h⟩ := h
  refine Post.bindK hS hE h fun x H1 ρ1 S1 ds hS1 hE1 st1 r1 h1 => ?_
  cases e : g S1 ds with
  | none => rw [e] at h1; exact h1.elim
  | some z => rw [e] at h1; exact ⟨ρ1, S1, ds, z, hS1, r1, e, h1⟩
theorem d_B (hc : CallR X (.builtin id) (rL X.K g)) (hg : Gl X x) (hm : X.mg x = none) (hv : bootBuiltins x = some (.builtin id)) (ha : DA X W (e :: es) n) (hn : x ≠ "__name__" := by decide) (hdb : (x == ("__debug__" : Str)) = false := by decide)
    (he : starEach (e :: es) X.env = (false, eval e X.env) :: starEach es X.env := by rfl) (hpl : (backTo pos (starEach es X.env)).any (·.1) = false := by rfl) : DE X W (.Call (.Name x p) (e :: es) [] pos) (mB g n) :=
  ⟨PE.imp (pe_callB hc hg hm hv ha.p hn hdb he hpl) fun σ H Q h => of_B h⟩
theorem d_Ty (hc : CallR X (.type T) (rL X.K g)) (hg : Gl X x) (hm : X.mg x = none) (hv : bootBuiltins x = some (.type T)) (ha : DA X W (e :: es) n) (hn : x ≠ "__name__" := by decide) (hdb : (x == ("__debug__" : Str)) = false := by decide)
    (he : starEach (e :: es) X.env = (false, eval e X.env) :: starEach es X.env := by rfl) (hpl : (backTo pos (starEach es X.env)).any (·.1) = false := by rfl) : DE X W (.Call (.Name x p) (e :: es) [] pos) (mB g n) :=
  ⟨PE.imp (pe_callTy hc hg hm hv ha.p hn hdb he hpl) fun σ H Q h => of_B h⟩
end
end Mi

namespace Mi
open PySem PySem.Spec PyProof.Rows L2
def intsD : List D → Option (List Int)
  | [] => some []
  | .int i :: ds => (intsD ds).map fun l => i :: l
  | _ => none
def blsD : List D → Option (List Bool)
  | [] => some []
  | .bl i :: ds => (blsD ds).map fun l => i :: l
  | _ => none
/-- the items of a list or tuple -/
def seqD (S : Sto) (d : D) : Option (List D) := match der S d with
  | .tup l => some l
  | .lst l => some l
  | .wls l => some l
  | _ => none
/-- the items of a list -/
def lstD (S : Sto) (d : D) : Option (List D) := match der S d with
  | .lst l => some l
  | .wls l => some l
  | _ => none
section
variable {K : PySem.W.Frag} {ρ : Rho} {S : Sto} {H : Hp}
theorem Rps.one {ds : List D} {v : V} (h : Rps K ρ H ds [v]) : ∃ d, ds = [d] ∧ Rp K ρ H d v := by
  cases ds with
  | nil => cases h
  | cons d ds =>
    obtain ⟨w, r, e, h1, h2⟩ := h
    cases e
    cases ds with
    | nil => exact ⟨d, rfl, h1⟩
    | cons d ds => obtain ⟨w, r, e, _⟩ := h2; cases e
theorem Rps.dest1 {d : D} {vs : List V} (h : Rps K ρ H [d] vs) : ∃ v, vs = [v] ∧ Rp K ρ H d v := by
  obtain ⟨v, r, e, h1, h2⟩ := h; cases h2; exact ⟨v, e, h1⟩
theorem Rps.dest2 {d e : D} {vs : List V} (h : Rps K ρ H [d, e] vs) : ∃ v u, vs = [v, u] ∧ Rp K ρ H d v ∧ Rp K ρ H e u := by
  obtain ⟨v, r, e1, h1, h2⟩ := h
  obtain ⟨u, e2, h3⟩ := h2.dest1
  subst e2
  exact ⟨v, u, e1, h1, h3⟩
theorem der_lst {d : D} {v : V} {l : List D} (hS : SOk K ρ S H) (h : Rp K ρ H d v) (e : lstD S d = some l) : ∃ p vs, v = .ref p ∧ SqL K H p vs ∧ Rps K ρ H l vs := by
  unfold lstD at e
  cases d with
  | lst l' => cases e; obtain ⟨p, vs, e1, h1, _, h2⟩ := h; exact ⟨p, vs, e1, SqL.of h1, h2⟩
  | wls l' => cases e; obtain ⟨p, vs, e1, h1, h2⟩ := h; exact ⟨p, vs, e1, h1.sq, h2⟩
  | loc n =>
    obtain ⟨p, e1, h1⟩ := h
    unfold der at e
    simp only at e
    cases hn : S[n]? with
    | none => rw [hn] at e; cases e
    | some o =>
      rw [hn] at e
      cases o with
      | lst l' =>
        cases e
        obtain ⟨a1, e2, xs, hx, rr⟩ := hS.obj n _ hn
        rw [h1] at e2; cases e2
        exact ⟨p, xs, e1, SqL.of hx, rr⟩
      | _ => cases e
  | _ => cases e
theorem der_seq {d : D} {v : V} {l : List D} (hS : SOk K ρ S H) (h : Rp K ρ H d v) (e : seqD S d = some l) : ∃ p vs, v = .ref p ∧ ((SqL K H p vs ∧ lstD S d = some l) ∨ (TLs K H p vs ∧ d = .tup l)) ∧ Rps K ρ H l vs := by
  have rest : (∀ l, d ≠ .tup l) → lstD S d = some l := by
    intro hd
    unfold seqD at e
    unfold lstD
    cases d with
    | tup l' => exact absurd rfl (hd l')
    | loc n =>
      unfold der at e ⊢
      simp only at e ⊢
      cases hn : S[n]? with
      | none => rw [hn] at e; cases e
      | some o => rw [hn] at e; cases o <;> first | exact e | cases e
    | lst l' => exact e
    | wls l' => exact e
    | _ => cases e
  by_cases hd : ∃ l, d = .tup l
  · obtain ⟨l', rfl⟩ := hd
    cases e
    obtain ⟨p, vs, e1, h1, h2⟩ := h
    exact ⟨p, vs, e1, .inr ⟨h1, rfl⟩, h2⟩
  · have e' := rest fun l z => hd ⟨l, z⟩
    obtain ⟨p, vs, e1, h1, h2⟩ := der_lst hS h e'
    exact ⟨p, vs, e1, .inl ⟨h1, e'⟩, h2⟩
theorem Rps.ints : ∀ {ds : List D} {vs : List V} {ns : List Int}, Rps K ρ H ds vs → intsD ds = some ns → vs = ns.map V.int
  | [], _, _, h, e => by cases h; cases e; rfl
  | .int i :: ds, _, ns, h, e => by
    obtain ⟨v, r, rfl, h1, h2⟩ := h
    unfold intsD at e
    cases q : intsD ds with
    | none => rw [q] at e; cases e
    | some l => rw [q] at e; cases e; cases h1; rw [Rps.ints h2 q]; rfl
  | .non :: _, _, _, _, e => by cases e
  | .bl _ :: _, _, _, _, e => by cases e
  | .str _ :: _, _, _, _, e => by cases e
  | .tup _ :: _, _, _, _, e => by cases e
  | .lst _ :: _, _, _, _, e => by cases e
  | .wls _ :: _, _, _, _, e => by cases e
  | .loc _ :: _, _, _, _, e => by cases e
  | .gl _ :: _, _, _, _, e => by cases e
  | .ty _ :: _, _, _, _, e => by cases e
theorem Rps.bls : ∀ {ds : List D} {vs : List V} {ns : List Bool}, Rps K ρ H ds vs → blsD ds = some ns → vs = ns.map V.bl
  | [], _, _, h, e => by cases h; cases e; rfl
  | .bl i :: ds, _, ns, h, e => by
    obtain ⟨v, r, rfl, h1, h2⟩ := h
    unfold blsD at e
    cases q : blsD ds with
    | none => rw [q] at e; cases e
    | some l => rw [q] at e; cases e; cases h1; rw [Rps.bls h2 q]; rfl
  | .non :: _, _, _, _, e => by cases e
  | .int _ :: _, _, _, _, e => by cases e
  | .str _ :: _, _, _, _, e => by cases e
  | .tup _ :: _, _, _, _, e => by cases e
  | .lst _ :: _, _, _, _, e => by cases e
  | .wls _ :: _, _, _, _, e => by cases e
  | .loc _ :: _, _, _, _, e => by cases e
  | .gl _ :: _, _, _, _, e => by cases e
  | .ty _ :: _, _, _, _, e => by cases e
theorem Rps.ofInts : ∀ {ns : List Int}, Rps K ρ H (ns.map D.int) (ns.map V.int)
  | [] => rfl
  | n :: ns => ⟨_, _, rfl, rfl, Rps.ofInts⟩
end
/-! ### len, abs, min, max, int, all, any, sum, list, tuple -/
def lenD : GL := fun S ds => match ds with
  | [.str x] => if x.length ≤ 16777216 then some (.int x.length) else none
  | [d] => (seqD S d).map fun l => .int l.length
  | _ => none
def absD : GL := fun _ ds => match ds with
  | [.int i] => some (.int (if i < 0 then -i else i))
  | _ => none
def max2D : GL := fun _ ds => match ds with
  | [.int i, .int j] => some (.int (if j > i then j else i))
  | _ => none
def min2D : GL := fun _ ds => match ds with
  | [.int i, .int j] => some (.int (if j < i then j else i))
  | _ => none
def intfD : GL := fun _ ds => match ds with
  | [.int i] => some (.int i)
  | [.bl b] => some (.int (if b then 1 else 0))
  | _ => none
def allD : GL := fun S ds => match ds with
  | [d] => (lstD S d).bind fun l => (blsD l).map fun bs => .bl (bs.all id)
  | _ => none
def anyD : GL := fun S ds => match ds with
  | [d] => (lstD S d).bind fun l => (blsD l).map fun bs => .bl (bs.any id)
  | _ => none
def sumD : GL := fun S ds => match ds with
  | [d] => (lstD S d).bind fun l => (intsD l).map fun bs => .int bs.sum
  | _ => none
def listD : GL := fun S ds => match ds with
  | [d] => (seqD S d).map .lst
  | _ => none
def tupleD : GL := fun S ds => match ds with
  | [d] => (seqD S d).map .tup
  | _ => none
section
variable {X : Cx}
theorem cD_len : CallR X (.builtin "len") (rL X.K lenD) := by
  intro pins s σ H xs us Q I r ⟨ρ, S, ds, z, hS, rd, e, q⟩
  unfold lenD at e
  split at e
  · split at e
    · rename_i x hl
      cases e
      obtain ⟨v, rfl, h1⟩ := rd.dest1
      cases h1
      exact call_len_str pins s σ H _ us Q I r ⟨_, rfl, by rw [sizeLine16]; exact hl, q ρ H _ hS .refl rfl⟩
    · cases e
  · rename_i d _
    cases hl : seqD S d with
    | none => rw [hl] at e; cases e
    | some l =>
      rw [hl] at e; cases e
      obtain ⟨v, rfl, h1⟩ := rd.dest1
      obtain ⟨p, vs, rfl, h2, h3⟩ := der_seq hS h1 hl
      exact call_len_seq pins s σ H _ us Q I r ⟨p, vs, rfl, h2.imp (·.1) (·.1.sq), q ρ H _ hS .refl (by show V.int _ = V.int _; rw [h3.length])⟩
  · cases e
theorem cD_abs : CallR X (.builtin "abs") (rL X.K absD) := by
  intro pins s σ H xs us Q I r ⟨ρ, S, ds, z, hS, rd, e, q⟩
  unfold absD at e
  split at e
  · cases e
    obtain ⟨v, rfl, h1⟩ := rd.dest1
    cases h1
    exact call_abs pins s σ H _ us Q I r ⟨_, rfl, q ρ H _ hS .refl rfl⟩
  · cases e
theorem cD_max2 (hc : X.calm = true) : CallR X (.builtin "max") (rL X.K max2D) := by
  intro pins s σ H xs us Q I r ⟨ρ, S, ds, z, hS, rd, e, q⟩
  unfold max2D at e
  split at e
  · cases e
    obtain ⟨v, u, rfl, h1, h2⟩ := rd.dest2
    cases h1; cases h2
    exact call_max2 hc pins s σ H _ us Q I r ⟨_, _, rfl, q ρ H _ hS .refl rfl⟩
  · cases e
theorem cD_min2 (hc : X.calm = true) : CallR X (.builtin "min") (rL X.K min2D) := by
  intro pins s σ H xs us Q I r ⟨ρ, S, ds, z, hS, rd, e, q⟩
  unfold min2D at e
  split at e
  · cases e
    obtain ⟨v, u, rfl, h1, h2⟩ := rd.dest2
    cases h1; cases h2
    exact call_min2 hc pins s σ H _ us Q I r ⟨_, _, rfl, q ρ H _ hS .refl rfl⟩
  · cases e
theorem cD_int : CallR X (.type "int") (rL X.K intfD) := by
  intro pins s σ H xs us Q I r ⟨ρ, S, ds, z, hS, rd, e, q⟩
  unfold intfD at e
  split at e
  · cases e
    obtain ⟨v, rfl, h1⟩ := rd.dest1
    cases h1
    exact call_int1 pins s σ H _ us Q I r (.inl ⟨_, rfl, q ρ H _ hS .refl rfl⟩)
  · cases e
    obtain ⟨v, rfl, h1⟩ := rd.dest1
    cases h1
    exact call_int1 pins s σ H _ us Q I r (.inr ⟨_, rfl, q ρ H _ hS .refl rfl⟩)
  · cases e
theorem cD_all (hc : X.calm = true) : CallR X (.builtin "all") (rL X.K allD) := by
  intro pins s σ H xs us Q I r ⟨ρ, S, ds, z, hS, rd, e, q⟩
  unfold allD at e
  split at e
  · rename_i d
    cases hl : lstD S d with
    | none => rw [hl] at e; cases e
    | some l =>
      rw [hl] at e
      cases hb : blsD l with
      | none => simp [hb] at e
      | some bs =>
        simp only [Option.bind_some, hb, Option.map_some, Option.some.injEq] at e
        subst e
        obtain ⟨v, rfl, h1⟩ := rd.dest1
        obtain ⟨p, vs, rfl, h2, h3⟩ := der_lst hS h1 hl
        have := h3.bls hb; subst this
        exact cr_all hc pins s σ H _ us Q I r ⟨p, bs, rfl, h2, q ρ H _ hS .refl rfl⟩
  · cases e
theorem cD_any (hc : X.calm = true) : CallR X (.builtin "any") (rL X.K anyD) := by
  intro pins s σ H xs us Q I r ⟨ρ, S, ds, z, hS, rd, e, q⟩
  unfold anyD at e
  split at e
  · rename_i d
    cases hl : lstD S d with
    | none => rw [hl] at e; cases e
    | some l =>
      rw [hl] at e
      cases hb : blsD l with
      | none => simp [hb] at e
      | some bs =>
        simp only [Option.bind_some, hb, Option.map_some, Option.some.injEq] at e
        subst e
        obtain ⟨v, rfl, h1⟩ := rd.dest1
        obtain ⟨p, vs, rfl, h2, h3⟩ := der_lst hS h1 hl
        have := h3.bls hb; subst this
        exact cr_any hc pins s σ H _ us Q I r ⟨p, bs, rfl, h2, q ρ H _ hS .refl rfl⟩
  · cases e
theorem cD_sum (hc : X.calm = true) : CallR X (.builtin "sum") (rL X.K sumD) := by
  intro pins s σ H xs us Q I r ⟨ρ, S, ds, z, hS, rd, e, q⟩
  unfold sumD at e
  split at e
  · rename_i d
    cases hl : lstD S d with
    | none => rw [hl] at e; cases e
    | some l =>
      rw [hl] at e
      cases hb : intsD l with
      | none => simp [hb] at e
      | some bs =>
        simp only [Option.bind_some, hb, Option.map_some, Option.some.injEq] at e
        subst e
        obtain ⟨v, rfl, h1⟩ := rd.dest1
        obtain ⟨p, vs, rfl, h2, h3⟩ := der_lst hS h1 hl
        have := h3.ints hb; subst this
        exact cr_sum hc pins s σ H _ us Q I r ⟨p, bs, rfl, h2, q ρ H _ hS .refl rfl⟩
  · cases e
theorem cD_list : CallR X (.type "list") (rL X.K listD) := by
  intro pins s σ H xs us Q I r ⟨ρ, S, ds, z, hS, rd, e, q⟩
  unfold listD at e
  split at e
  · rename_i d
    cases hl : seqD S d with
    | none => rw [hl] at e; cases e
    | some l =>
      rw [hl] at e; cases e
      obtain ⟨v, rfl, h1⟩ := rd.dest1
      obtain ⟨p, vs, rfl, h2, h3⟩ := der_seq hS h1 hl
      exact call_list_of pins s σ H _ us Q I r ⟨p, vs, rfl, h2.imp (·.1) (·.1.sq), fun l hl => new_lst hS h3 hl q⟩
  · cases e
theorem cD_tuple : CallR X (.type "tuple") (rL X.K tupleD) := by
  intro pins s σ H xs us Q I r ⟨ρ, S, ds, z, hS, rd, e, q⟩
  unfold tupleD at e
  split at e
  · rename_i d
    cases hl : seqD S d with
    | none => rw [hl] at e; cases e
    | some l =>
      rw [hl] at e; cases e
      obtain ⟨v, rfl, h1⟩ := rd.dest1
      obtain ⟨p, vs, rfl, h2, h3⟩ := der_seq hS h1 hl
      refine call_tuple_of pins s σ H _ us Q I r ⟨p, vs, rfl, ?_⟩
      rcases h2 with ⟨h2, _⟩ | ⟨h2, _⟩
      · exact .inl ⟨h2, fun l hl => new_tup hS h3 hl q⟩
      · exact .inr ⟨h2.sq, q ρ H _ hS .refl ⟨p, vs, rfl, h2, h3⟩⟩
  · cases e
end
/-! ### isinstance with built-in types -/
def D.tyn (S : Sto) : D → Option String
  | .non => some "NoneType"
  | .bl _ => some "bool"
  | .int _ => some "int"
  | .str _ => some "str"
  | .tup _ => some "tuple"
  | .lst _ => some "list"
  | .wls _ => some "list"
  | .loc n => match S[n]? with
    | some (.lst _) => some "list"
    | some (.dct _) => some "dict"
    | some (.dcT _) => some "dict"
    | _ => none
  | _ => none
/-- isinstance for the built-in types that are asked here -/
def isiB (a b : String) : Bool := a == b || (a == "bool" && b == "int")
def askTys : List String := ["int", "bool", "str", "tuple", "list", "dict"]
def isiD : GL := fun S ds => match ds with
  | [d, .ty b] => if askTys.contains b = true then (d.tyn S).map fun a => .bl (isiB a b) else none
  | [d, .tup l] => match l with
    | [.ty b, .ty c] => if askTys.contains b = true ∧ askTys.contains c = true then (d.tyn S).map fun a => .bl (isiB a b || isiB a c) else none
    | _ => none
  | _ => none
theorem kit_all {K : PySem.W.Frag} {a b : String} (ha : a ∈ ["NoneType", "bool", "int", "str", "tuple", "list", "dict"]) (hb : b ∈ askTys) : PySem.W.kitOne K (.type a) (.type b) = some (isiB a b) := by
  have h : ∀ a ∈ ["NoneType", "bool", "int", "str", "tuple", "list", "dict"], ∀ b ∈ askTys, kitB a b = some (isiB a b) := by decide +kernel
  exact kit_ty (h a ha b hb)
theorem tyx_of {K : PySem.W.Frag} {ρ : Rho} {S : Sto} {H : Hp} {d : D} {v : V} {a : String} (hS : SOk K ρ S H) (h : Rp K ρ H d v) (e : d.tyn S = some a) : TyX K H v (.type a) ∧ a ∈ ["NoneType", "bool", "int", "str", "tuple", "list", "dict"] := by
  cases d with
  | non => cases h; cases e; exact ⟨.base .non, by decide⟩
  | bl b => cases h; cases e; exact ⟨.base (.bl b), by decide⟩
  | int b => cases h; cases e; exact ⟨.base (.int b), by decide⟩
  | str b => cases h; cases e; exact ⟨.base (.str b), by decide⟩
  | tup l =>
    cases e
    obtain ⟨p, vs, rfl, h1, _⟩ := h
    refine ⟨?_, by decide⟩
    rcases h1 with h1 | ⟨o, its, n, hk, hc, _⟩
    · exact .base (.tup h1)
    · exact .kTuple hk hc
  | lst l =>
    cases e
    obtain ⟨p, vs, rfl, h1, _⟩ := h
    exact ⟨.base (.lst h1), by decide⟩
  | wls l =>
    cases e
    obtain ⟨p, vs, rfl, h1, _⟩ := h
    refine ⟨?_, by decide⟩
    rcases h1 with ⟨o, h1⟩ | ⟨o, its, n, hk, hc, _⟩
    · exact .base (.frz h1)
    · exact .kList hk hc
  | loc n =>
    obtain ⟨p, rfl, h1⟩ := h
    unfold D.tyn at e
    simp only at e
    cases hn : S[n]? with
    | none => rw [hn] at e; cases e
    | some o =>
      obtain ⟨a1, e2, ok⟩ := hS.obj n _ hn
      rw [h1] at e2; cases e2
      rw [hn] at e
      cases o with
      | lst l => cases e; obtain ⟨vs, h2, _⟩ := ok; exact ⟨.base (.lst h2), by decide⟩
      | dct l => cases e; obtain ⟨vs, h2, _⟩ := ok; exact ⟨.base (.dK h2), by decide⟩
      | dcT l => cases e; obtain ⟨vs, h2, _⟩ := ok; exact ⟨.base (.dT h2), by decide⟩
      | ins C l => cases e
  | _ => cases e
section
variable {X : Cx}
theorem cD_isi : CallR X (.builtin "isinstance") (rL X.K isiD) := by
  intro pins s σ H xs us Q I r ⟨ρ, S, ds, z, hS, rd, e, q⟩
  unfold isiD at e
  split at e
  · rename_i d b
    split at e
    · rename_i hb
      obtain ⟨v, u, rfl, h1, h2⟩ := rd.dest2
      cases h2
      cases ha : d.tyn S with
      | none => rw [ha] at e; cases e
      | some a =>
        rw [ha] at e; cases e
        obtain ⟨t1, t2⟩ := tyx_of hS h1 ha
        exact call_isi pins s σ H _ us Q I r ⟨v, _, _, _, _, rfl, .ty b, t1, kit_all t2 (by simpa using hb), q ρ H _ hS .refl rfl⟩
    · cases e
  · rename_i d l
    split at e
    · rename_i b c
      split at e
      · rename_i hb
        obtain ⟨v, u, rfl, h1, p, vs, rfl, h2, h3⟩ := rd.dest2
        obtain ⟨v1, v2, rfl, h4, h5⟩ := h3.dest2
        cases h4; cases h5
        cases ha : d.tyn S with
        | none => rw [ha] at e; cases e
        | some a =>
          rw [ha] at e; cases e
          obtain ⟨t1, t2⟩ := tyx_of hS h1 ha
          have k1 := kit_all (K := X.K) t2 (show b ∈ askTys by simpa using hb.1)
          have k2 := kit_all (K := X.K) t2 (show c ∈ askTys by simpa using hb.2)
          have k3 : PySem.W.kitAny X.K (.type a) [.type b, .type c] = some (isiB a b || isiB a c) := by
            refine kitAny_cons k1 (fun e1 => kitAny_cons k2 (fun e2 => ?_) fun e2 => ?_) fun e1 => by rw [e1]; rfl
            · rw [e1, e2]; exact kitAny_nil
            · rw [e1, e2]; rfl
          have pc : Paired ClsV [V.ty b, V.ty c] [.type b, .type c] := .cons (.ty b) (.cons (.ty c) .nil)
          rcases h2 with h2 | ⟨⟨oc, od, dt, sl⟩, its, n, hk, hc, hd, hz, hv⟩
          · exact call_isiT pins s σ H _ us Q I r ⟨v, p, _, _, [.type b, .type c], _, rfl, h2, pc, t1, k3, q ρ H _ hS .refl rfl⟩
          · simp only at hc hd
            subst hc hd
            have e4 := ClsV.all pc hv
            refine call_isiK pins s σ H _ us Q I r ⟨v, p, od, [.type b, .type c], n, sl, _, _, rfl, ?_, t1, k3, q ρ H _ hS .refl rfl⟩
            rw [hk, ← e4]
      · cases e
    · cases e
  · cases e
end
end Mi

namespace Mi
open PySem PySem.Spec PyProof.Rows L2
inductive RS where
  | nx (env : En) (S : Sto) | rt (d : D) (S : Sto) | bk (env : En) (S : Sto) | ct (env : En) (S : Sto) | exc (C : Addr) (fs : List (Str × D)) (env : En) (S : Sto) | bad
abbrev SM := En → Sto → RS
def RS.of {α : Type} (r : R α) (env : En) (f : α → Sto → RS) : RS := match r with
  | .ok a S => f a S
  | .exc C fs S => .exc C fs env S
  | .bad => .bad
@[simp] theorem RS.of_ok {α : Type} {a : α} {S : Sto} {env : En} {f : α → Sto → RS} : RS.of (R.ok a S) env f = f a S := rfl
@[simp] theorem RS.of_exc {α : Type} {C fs S} {env : En} {f : α → Sto → RS} : RS.of (R.exc C fs S : R α) env f = .exc C fs env S := rfl
@[simp] theorem RS.of_bad {α : Type} {env : En} {f : α → Sto → RS} : RS.of (R.bad : R α) env f = .bad := rfl
/-- a block: what follows a statement that ends by itself -/
def RS.seq (r : RS) (f : SM) : RS := match r with
  | .nx env S => f env S
  | r => r
@[simp] theorem RS.seq_nx {env S} {f : SM} : (RS.nx env S).seq f = f env S := rfl
@[simp] theorem RS.seq_rt {d S} {f : SM} : (RS.rt d S).seq f = .rt d S := rfl
@[simp] theorem RS.seq_bk {env S} {f : SM} : (RS.bk env S).seq f = .bk env S := rfl
@[simp] theorem RS.seq_ct {env S} {f : SM} : (RS.ct env S).seq f = .ct env S := rfl
@[simp] theorem RS.seq_exc {C fs env S} {f : SM} : (RS.exc C fs env S).seq f = .exc C fs env S := rfl
@[simp] theorem RS.seq_bad {f : SM} : RS.bad.seq f = .bad := rfl
section
variable {K : PySem.W.Frag} {W : WX} {ρ ρ' : Rho} {S S' : Sto} {H H' : Hp} {env : En} {σ : L2.St}
def SPost (K : PySem.W.Frag) (W : WX) (T : Ends) (ρ : Rho) (H : Hp) (r : RS) : Prop := match r with
  | .nx env' S' => ∀ ρ' H' σ', SOk K ρ' S' H' → Stp ρ ρ' H H' → EOk K ρ' H' env' σ' → T.nx σ' H'
  | .rt d S' => ∀ ρ' H' v, SOk K ρ' S' H' → Stp ρ ρ' H H' → Rp K ρ' H' d v → T.rt v H'
  | .bk env' S' => ∀ ρ' H' σ', SOk K ρ' S' H' → Stp ρ ρ' H H' → EOk K ρ' H' env' σ' → T.bk σ' H'
  | .ct env' S' => ∀ ρ' H' σ', SOk K ρ' S' H' → Stp ρ ρ' H H' → EOk K ρ' H' env' σ' → T.ct σ' H'
  | .exc C fs env' S' => ∀ ρ' H' σ' d vs, SOk K ρ' S' H' → Stp ρ ρ' H H' → EOk K ρ' H' env' σ' → ρ'.no d → H' d = some (.xd vs) → KVs K ρ' H' fs vs → W (.ref C) (some d) σ' H'
  | .bad => False
def tSt (K : PySem.W.Frag) (W : WX) (m : SM) : TS := fun T σ H => ∃ ρ S env, SOk K ρ S H ∧ EOk K ρ H env σ ∧ SPost K W T ρ H (m env S)
theorem SPost.step {T : Ends} {r : RS} (st : Stp ρ ρ' H H') (h : SPost K W T ρ H r) : SPost K W T ρ' H' r := by
  cases r with
  | nx env S => exact fun ρ2 H2 σ2 h1 h2 h3 => h ρ2 H2 σ2 h1 (st.trans h2) h3
  | rt d S => exact fun ρ2 H2 σ2 h1 h2 h3 => h ρ2 H2 σ2 h1 (st.trans h2) h3
  | bk env S => exact fun ρ2 H2 σ2 h1 h2 h3 => h ρ2 H2 σ2 h1 (st.trans h2) h3
  | ct env S => exact fun ρ2 H2 σ2 h1 h2 h3 => h ρ2 H2 σ2 h1 (st.trans h2) h3
  | exc C fs env S => exact fun ρ2 H2 σ2 d vs h1 h2 h3 h4 h5 h6 => h ρ2 H2 σ2 d vs h1 (st.trans h2) h3 h4 h5 h6
  | bad => exact h
/-- an expression ahead of a statement's end -/
theorem SPost.bindK {α β : Type} {rel : Rel α β} {m : En → Sto → R α} {f : α → Sto → RS} {T : Ends} {Q1 : β → Hp → Prop} (hS : SOk K ρ S H) (hE : EOk K ρ H env σ)
    (h : SPost K W T ρ H (RS.of (m env S) env f))
    (k : ∀ v H1 ρ1 S1 a, SOk K ρ1 S1 H1 → EOk K ρ1 H1 env σ → Stp ρ ρ1 H H1 → rel ρ1 H1 a v → SPost K W T ρ1 H1 (f a S1) → Q1 v H1) :
    tG K W rel m σ H Q1 := by
  refine ⟨ρ, S, env, hS, hE, ?_⟩
  revert h
  generalize m env S = r
  intro h
  cases r with
  | ok a S1 => exact fun ρ2 H2 v h1 h2 h3 => k v H2 ρ2 S1 a h1 (hE.step hS h2) h2 h3 (h.step h2)
  | exc C fs S1 => exact fun ρ2 H2 d vs h1 h2 h3 h4 h5 => h ρ2 H2 σ d vs h1 h2 (hE.step hS h2) h3 h4 h5
  | bad => exact h
theorem EOk.set {d : D} {v : V} {i : Nat} (h : EOk K ρ H env σ) (r : Rp K ρ H d v) : EOk K ρ H (env.set i (some d)) (σ.set i (some v)) := by
  refine ⟨by rw [List.length_set, List.length_set]; exact h.len, fun j e hj => ?_⟩
  by_cases hij : i = j
  · subst hij
    have hl : i < env.length := by
      have := (List.getElem?_eq_some_iff.mp hj).1
      simpa using this
    have hl2 : i < σ.length := by rw [← h.len]; exact hl
    rw [List.getElem?_set_self hl] at hj
    cases hj
    exact ⟨v, List.getElem?_set_self hl2, r⟩
  · rw [List.getElem?_set_ne hij] at hj
    obtain ⟨w, h1, h2⟩ := h.val j e hj
    exact ⟨w, by rw [List.getElem?_set_ne hij]; exact h1, h2⟩
theorem EOk.drop1 {i : Nat} (h : EOk K ρ H env σ) : EOk K ρ H (env.set i none) (σ.set i none) := by
  refine ⟨by rw [List.length_set, List.length_set]; exact h.len, fun j e hj => ?_⟩
  by_cases hij : i = j
  · subst hij
    have hl : i < env.length := by
      have := (List.getElem?_eq_some_iff.mp hj).1
      simpa using this
    rw [List.getElem?_set_self hl] at hj
    cases hj
  · rw [List.getElem?_set_ne hij] at hj
    obtain ⟨w, h1, h2⟩ := h.val j e hj
    exact ⟨w, by rw [List.getElem?_set_ne hij]; exact h1, h2⟩
end
structure DS (X : Cx) (W : WX) (st : Stmt) (m : SM) : Prop where
  p : PS X st (tSt X.K W m)
structure DB (X : Cx) (W : WX) (st : List Stmt) (m : SM) : Prop where
  p : PSs X st (tSt X.K W m)
/-! ### blocks and small statements -/
def sNil : SM := fun env S => .nx env S
def sSeq (m n : SM) : SM := fun env S => (m env S).seq n
def sRet (m : TM) : SM := fun env S => RS.of (m env S) env fun d S1 => .rt d S1
def sRetN : SM := fun _ S => .rt .non S
def sIf (t : BM) (m n : SM) : SM := fun env S => RS.of (t env S) env fun b S1 => if b = true then m env S1 else n env S1
def sDrop (m : TM) : SM := fun env S => RS.of (m env S) env fun _ S1 => .nx env S1
def sBk : SM := fun env S => .bk env S
def sCt : SM := fun env S => .ct env S
def sBad : SM := fun _ _ => .bad
section
variable {X : Cx} {W : WX} {st : Stmt} {rest : List Stmt} {m n : SM} {e c : Expr} {me : TM} {mc : BM} {pos : Pos} {x y : List Stmt}
theorem b_nil : DB X W [] sNil := ⟨PSs.imp pss_nil fun T σ H ⟨ρ, S, env, hS, hE, h⟩ => h ρ H σ hS .refl hE⟩
theorem b_cons (h : DS X W st m) (k : DB X W rest n) : DB X W (st :: rest) (sSeq m n) :=
  ⟨PSs.imp (pss_cons h.p k.p) fun T σ H ⟨ρ, S, env, hS, hE, h⟩ => ⟨ρ, S, env, hS, hE, by
    unfold sSeq at h
    revert h
    generalize m env S = r
    intro h
    cases r with
    | nx env1 S1 => exact fun ρ1 H1 σ1 h1 h2 h3 => ⟨ρ1, S1, env1, h1, h3, h.step h2⟩
    | rt d S1 => exact h
    | bk env1 S1 => exact h
    | ct env1 S1 => exact h
    | exc C fs env1 S1 => exact h
    | bad => exact h⟩⟩
theorem b_one (h : DS X W st m) : DB X W [st] m := ⟨pss_one h.p⟩
theorem s_ret (h : DE X W e me) : DS X W (.Return (some e) pos) (sRet me) :=
  ⟨PS.imp (ps_ret h.p) fun T σ H ⟨ρ, S, env, hS, hE, h⟩ => SPost.bindK hS hE h fun v H1 ρ1 S1 a h1 h2 h3 h4 h5 => h5 ρ1 H1 v h1 .refl h4⟩
theorem s_retN : DS X W (.Return none pos) sRetN := ⟨PS.imp ps_retN fun T σ H ⟨ρ, S, env, hS, hE, h⟩ => h ρ H .non hS .refl rfl⟩
theorem s_if (hc : DT X W c mc) (ha : DB X W x m) (hb : DB X W y n) : DS X W (.If c x y pos) (sIf mc m n) :=
  ⟨PS.imp (ps_if hc.p ha.p hb.p) fun T σ H ⟨ρ, S, env, hS, hE, h⟩ => SPost.bindK hS hE h fun v H1 ρ1 S1 a h1 h2 h3 h4 h5 => by
    cases h4
    cases v with
    | true => exact ⟨ρ1, S1, env, h1, h2, h5⟩
    | false => exact ⟨ρ1, S1, env, h1, h2, h5⟩⟩
theorem s_drop (h : DE X W e me) (hs : swapsWith e none pos.line X.env = pure false := by rfl) : DS X W (.Expr e pos) (sDrop me) :=
  ⟨PS.imp (ps_expr h.p hs) fun T σ H ⟨ρ, S, env, hS, hE, h⟩ => SPost.bindK hS hE h fun v H1 ρ1 S1 a h1 h2 h3 h4 h5 => h5 ρ1 H1 σ h1 .refl h2⟩
theorem s_pass : DS X W (.Pass pos) sNil := ⟨PS.imp ps_pass fun T σ H ⟨ρ, S, env, hS, hE, h⟩ => h ρ H σ hS .refl hE⟩
theorem s_bk : DS X W (.Break pos) sBk := ⟨PS.imp ps_break fun T σ H ⟨ρ, S, env, hS, hE, h⟩ => h ρ H σ hS .refl hE⟩
theorem s_ct : DS X W (.Continue pos) sCt := ⟨PS.imp ps_continue fun T σ H ⟨ρ, S, env, hS, hE, h⟩ => h ρ H σ hS .refl hE⟩
/-- a statement, a block that the proof never comes to -/
theorem s_bad : DS X W st sBad := ⟨PS.imp ps_never fun T σ H ⟨ρ, S, env, hS, hE, h⟩ => h⟩
end
/-! ### targets -/
abbrev GM := D → En → Sto → R En
def relE : Rel En L2.St := fun ρ H env σ => True
/-- what a target's slots may change -/
def Chg (is : List Nat) (σ σ' : L2.St) : Prop := σ'.length = σ.length ∧ ∀ i, i ∉ is → σ'[i]? = σ[i]?
def gD (K : PySem.W.Frag) (is : List Nat) (g : GM) : TG := fun v σ H Q => ∃ ρ S env d, SOk K ρ S H ∧ EOk K ρ H env σ ∧ Rp K ρ H d v ∧ ∃ env' S', g d env S = .ok env' S' ∧
  ∀ ρ' H' σ', SOk K ρ' S' H' → Stp ρ ρ' H H' → EOk K ρ' H' env' σ' → Chg is σ σ' → Q σ' H'
structure DG (X : Cx) (is : List Nat) (e : Expr) (g : GM) : Prop where
  p : PG X e (gD X.K is g)
theorem PG.imp {X : Cx} {e : Expr} {t t' : TG} (h : PG X e t) (i : ∀ v σ H Q, t' v σ H Q → t v σ H Q) : PG X e t' := ⟨fun pins s σ H v u Q I r q => h.run pins s σ H v u Q I r (i v σ H Q q)⟩
def gN (i : Nat) : GM := fun d env S => .ok (env.set i (some d)) S
def gT (gs : List GM) : GM := fun d env S => match seqD S d with
  | some l => go gs l env S
  | none => .bad
where go : List GM → List D → En → Sto → R En
  | [], [], env, S => .ok env S
  | g :: gs, d :: ds, env, S => (g d env S).bind fun env1 S1 => go gs ds env1 S1
  | _, _, _, _ => .bad
/-- several targets -/
def gsD (K : PySem.W.Frag) (is : List Nat) (gs : List GM) : TGs := fun vs σ H Q => ∃ ρ S env ds, SOk K ρ S H ∧ EOk K ρ H env σ ∧ Rps K ρ H ds vs ∧ ∃ env' S', gT.go gs ds env S = .ok env' S' ∧
  ∀ ρ' H' σ', SOk K ρ' S' H' → Stp ρ ρ' H H' → EOk K ρ' H' env' σ' → Chg is σ σ' → Q σ' H'
structure DGs (X : Cx) (is : List Nat) (es : List Expr) (gs : List GM) : Prop where
  p : PGs X es (gsD X.K is gs)
  n : gs.length = (assignEach es X.env).length
theorem PGs.imp {X : Cx} {e : List Expr} {t t' : TGs} (h : PGs X e t) (i : ∀ v σ H Q, t' v σ H Q → t v σ H Q) : PGs X e t' := ⟨fun pins s σ H v u Q I r q => h.run pins s σ H v u Q I r (i v σ H Q q)⟩
section
variable {X : Cx} {W : WX} {pos : Pos} {is js : List Nat} {e : Expr} {es : List Expr} {g : GM} {gs : List GM}
theorem Chg.refl {is : List Nat} {σ : L2.St} : Chg is σ σ := ⟨rfl, fun _ _ => rfl⟩
theorem Chg.trans {σ σ1 σ2 : L2.St} (a : Chg is σ σ1) (b : Chg js σ1 σ2) : Chg (is ++ js) σ σ2 :=
  ⟨b.1.trans a.1, fun i h => by
    rw [List.mem_append] at h
    rw [b.2 i fun z => h (.inr z), a.2 i fun z => h (.inl z)]⟩
theorem g_name {i : Nat} {x : Str} (hN : X.N.Nodup) (hi : X.N[i]? = some x) (hx : Loc X.env.scope x) (hf : X.fn x = true ∨ X.env.scope.names.lookup x = some .local) : DG X [i] (.Name x pos) (gN i) :=
  ⟨PG.imp (pg_name hN hi hx hf) fun v σ H Q ⟨ρ, S, env, d, hS, hE, r, env', S', e, q⟩ => by
    cases e
    refine q ρ H _ hS .refl (hE.set r) ⟨List.length_set, fun j hj => ?_⟩
    rw [List.getElem?_set_ne]
    intro z; subst z; exact hj List.mem_cons_self⟩
theorem gs_nil : DGs X [] [] [] := by
  refine ⟨PGs.imp pgs_nil fun vs σ H Q ⟨ρ, S, env, ds, hS, hE, r, env', S', e, q⟩ => ?_, rfl⟩
  cases ds with
  | nil => cases r; cases e; exact ⟨rfl, q ρ H σ hS .refl hE .refl⟩
  | cons d ds => cases e
theorem gs_cons (h : DG X is e g) (k : DGs X js es gs) (hs : (assignEach (e :: es) X.env).map (·.2) = assign e X.env :: (assignEach es X.env).map (·.2) := by rfl) : DGs X (is ++ js) (e :: es) (g :: gs) := by
  refine ⟨PGs.imp (pgs_cons h.p k.p hs) fun vs σ H Q ⟨ρ, S, env, ds, hS, hE, r, env', S', e, q⟩ => ?_, ?_⟩
  · cases ds with
    | nil => cases e
    | cons d ds =>
      obtain ⟨v, vr, rfl, h1, h2⟩ := r
      unfold gT.go at e
      cases hg : g d env S with
      | ok env1 S1 =>
        rw [hg] at e
        refine ⟨v, vr, rfl, ρ, S, env, d, hS, hE, h1, env1, S1, hg, fun ρ1 H1 σ1 hS1 st1 hE1 c1 => ?_⟩
        exact ⟨ρ1, S1, env1, ds, hS1, hE1, Rps.step hS st1 ds vr h2, env', S', e, fun ρ2 H2 σ2 hS2 st2 hE2 c2 => q ρ2 H2 σ2 hS2 (st1.trans st2) hE2 (c1.trans c2)⟩
      | exc C fs S1 => rw [hg] at e; cases e
      | bad => rw [hg] at e; cases e
  · have := congrArg List.length hs
    simp at this
    rw [List.length_cons, k.n, this]
theorem go_length : ∀ {gs : List GM} {ds : List D} {env env' : En} {S S' : Sto}, gT.go gs ds env S = .ok env' S' → ds.length = gs.length
  | [], [], _, _, _, _, _ => rfl
  | g :: gs, d :: ds, env, _, S, _, h => by
    unfold gT.go at h
    cases hg : g d env S with
    | ok env1 S1 => rw [hg] at h; rw [List.length_cons, List.length_cons, go_length h]
    | exc C fs S1 => rw [hg] at h; cases h
    | bad => rw [hg] at h; cases h
  | [], _ :: _, _, _, _, _, h => by cases h
  | _ :: _, [], _, _, _, _, h => by cases h
theorem PG.or {t t' : TG} (h : PG X e t) (k : PG X e t') : PG X e (fun v σ H Q => t v σ H Q ∨ t' v σ H Q) :=
  ⟨fun pins s σ H v u Q I r q => q.elim (h.run pins s σ H v u Q I r) (k.run pins s σ H v u Q I r)⟩
theorem g_tup {k : Nat} (hc : X.calm = true) (h : DGs X is es gs) (hst : (assignEach es X.env).findIdx? (·.1) = none := by rfl) : DG X is (.Tuple es k pos) (gT gs) :=
  ⟨PG.imp (PG.or (pg_tup hc h.p rfl hst) (pg_unl hc h.p rfl hst)) fun v σ H Q ⟨ρ, S, env, d, hS, hE, r, env', S', e, q⟩ => by
    unfold gT at e
    cases hl : seqD S d with
    | none => rw [hl] at e; cases e
    | some l =>
      rw [hl] at e
      obtain ⟨p, vs, rfl, h1, h2⟩ := der_seq hS r hl
      have hn : vs.length = (assignEach es X.env).length := by rw [← h2.length, go_length e, h.n]
      rcases h1 with ⟨h1, _⟩ | ⟨h1, _⟩
      · exact .inr ⟨p, vs, rfl, h1, hn, ρ, S, env, l, hS, hE, h2, env', S', e, q⟩
      · exact .inl ⟨p, vs, rfl, h1.sq, hn, ρ, S, env, l, hS, hE, h2, env', S', e, q⟩⟩
end
end Mi

namespace Mi
open PySem PySem.Spec PyProof.Rows L2
section
variable {K : PySem.W.Frag} {ρ ρ' : Rho} {S S' : Sto} {H H' : Hp} {a : Addr} {n : Nat} {o : O} {ho : HO}
/-- an object of the store is written -/
theorem upd_step (e : ρ.m n = some a) : Stp ρ ρ H (upd H a ho) where
  up _ _ h := h
  new _ _ h := .inl h
  pv _ h := .inl h
  pvu _ h := h
  keep b u h hn := by rw [upd_ne (fun z => hn n (by rw [z]; exact e))]; exact h
  live b h := upd_live h
theorem SOk.write (hS : SOk K ρ S H) (e : ρ.m n = some a) (ok : OOk K ρ (upd H a ho) a o) : SOk K ρ (S.set n o) (upd H a ho) := by
  have st : Stp ρ ρ H (upd H a ho) := upd_step e
  refine ⟨hS.inj, fun m b h => by rw [List.length_set]; exact hS.dom m b h, fun m o' h => ?_, fun b h => ?_⟩
  · by_cases hm : n = m
    · subst hm
      have hl := hS.dom n a e
      rw [List.getElem?_set_self hl] at h
      cases h
      exact ⟨a, e, ok⟩
    · rw [List.getElem?_set_ne hm] at h
      obtain ⟨b, hb, ok'⟩ := hS.obj m o' h
      refine ⟨b, hb, ok'.step hS st (upd_ne fun z => ?_)⟩
      subst z
      exact hm (hS.inj n m b e hb)
  · obtain ⟨⟨u, h1, h2⟩, h3⟩ := hS.prv b h
    exact ⟨⟨u, by rw [upd_ne (fun z => h3 n (by rw [z]; exact e))]; exact h1, h2⟩, h3⟩
theorem KVs.length {κ : Type} : ∀ {l : List (κ × D)} {vs : List (κ × V)}, KVs K ρ H l vs → l.length = vs.length
  | [], _, h => by cases h; rfl
  | d :: ds, _, h => by obtain ⟨v, r, rfl, _, h2⟩ := h; simp [KVs.length h2]
end
def putD {κ : Type} [DecidableEq κ] (l : List (κ × D)) (k : κ) (v : D) : List (κ × D) :=
  if (l.any fun kv => decide (kv.1 = k)) = true then l.map fun kv => if kv.1 = k then (kv.1, v) else kv else l ++ [(k, v)]
section
variable {K : PySem.W.Frag} {ρ ρ' : Rho} {S S' : Sto} {H H' : Hp}
theorem KVs.put {κ : Type} [DecidableEq κ] {l : List (κ × D)} {vs : List (κ × V)} {k : κ} {d : D} {v : V} (h : KVs K ρ H l vs) (r : Rp K ρ H d v) : KVs K ρ H (putD l k d) (putK vs k v) := by
  have any : ∀ {l : List (κ × D)} {vs : List (κ × V)}, KVs K ρ H l vs → (l.any fun kv => decide (kv.1 = k)) = vs.any fun kv => decide (kv.1 = k) := by
    intro l
    induction l with
    | nil => intro vs h; cases h; rfl
    | cons d ds ih => intro vs h; obtain ⟨v, r, rfl, _, h2⟩ := h; rw [List.any_cons, List.any_cons, ih h2]
  have map : ∀ {l : List (κ × D)} {vs : List (κ × V)}, KVs K ρ H l vs → KVs K ρ H (l.map fun kv => if kv.1 = k then (kv.1, d) else kv) (vs.map fun kv => if kv.1 = k then (kv.1, v) else kv) := by
    intro l
    induction l with
    | nil => intro vs h; cases h; rfl
    | cons e ds ih =>
      intro vs h
      obtain ⟨w, t, rfl, h1, h2⟩ := h
      rw [List.map_cons, List.map_cons]
      by_cases q : e.1 = k
      · simp only [q, if_true]
        exact ⟨v, _, rfl, r, ih h2⟩
      · simp only [q, if_false]
        exact ⟨w, _, rfl, h1, ih h2⟩
  have app : ∀ {l : List (κ × D)} {vs : List (κ × V)}, KVs K ρ H l vs → KVs K ρ H (l ++ [(k, d)]) (vs ++ [(k, v)]) := by
    intro l
    induction l with
    | nil => intro vs h; cases h; exact ⟨v, [], rfl, r, rfl⟩
    | cons e ds ih => intro vs h; obtain ⟨w, t, rfl, h1, h2⟩ := h; exact ⟨w, _, rfl, h1, ih h2⟩
  unfold putD putK
  rw [any h]
  split
  · exact map h
  · exact app h
end
/-! ### o[i] = v -/
def setD (S : Sto) (o i v : D) : Option Sto := match o with
  | .loc n => match S[n]? with
    | some (.lst l) => (intD i).bind fun k => (ixN l.length k).map fun j => S.set n (.lst (l.set j v))
    | some (.dct l) => if l.length < 16777216 then (keyD i).map fun k => S.set n (.dct (putD l k v)) else none
    | _ => none
  | _ => none
def rSetD (K : PySem.W.Frag) : V → V → V → Hp → (Hp → Prop) → Prop := fun o i v H Q => ∃ ρ S a b c S', SOk K ρ S H ∧ Rp K ρ H a o ∧ Rp K ρ H b i ∧ Rp K ρ H c v ∧ setD S a b c = some S' ∧
  ∀ ρ' H', SOk K ρ' S' H' → Stp ρ ρ' H H' → Q H'
theorem setD_ok {X : Cx} (hu : X.A.units + 1 < cLine) : PSet X (rSetD X.K) := by
  intro pins s σ H o i v ov iv u Q I ro ri rv ⟨ρ, S, a, b, c, S', hS, ra, rb, rc, e, q⟩
  unfold setD at e
  cases a with
  | loc n =>
    obtain ⟨p, rfl, h1⟩ := ra
    simp only at e
    cases hn : S[n]? with
    | none => rw [hn] at e; cases e
    | some ob =>
      obtain ⟨a1, e1, ok⟩ := hS.obj n _ hn
      rw [h1] at e1; cases e1
      rw [hn] at e
      cases ob with
      | lst l =>
        obtain ⟨xs, hx, r1⟩ := ok
        obtain ⟨k, rfl, e⟩ := rb.int' e
        cases hj : ixN l.length k with
        | none => rw [hj] at e; cases e
        | some j =>
          rw [hj] at e; cases e
          refine set_list pins s σ H _ _ v ov iv u Q I ro ri rv ⟨p, xs, k, j, rfl, rfl, hx, by rw [← r1.length]; exact hj, ?_⟩
          have st : Stp ρ ρ H (upd H p (.lst (xs.set j v))) := upd_step h1
          exact q ρ _ (hS.write h1 ⟨_, upd_same, Rps.step hS st _ _ (r1.set j rc)⟩) st
      | dct l =>
        obtain ⟨xs, hx, r1⟩ := ok
        simp only at e
        split at e
        · rename_i hl
          cases hk : keyD b with
          | none => rw [hk] at e; cases e
          | some k =>
            rw [hk] at e; cases e
            have ey := rb.key hk
            subst ey
            cases ro
            have st : Stp ρ ρ H (upd H p (.dK (putK xs k v))) := upd_step h1
            exact d_setItem hu I (DPut.k hx (by rw [sizeLine16, ← r1.length]; exact hl)) ri rv fun s4 I4 => ⟨_, I4, q ρ _ (hS.write h1 ⟨_, upd_same, KVs.step hS st _ _ (r1.put rc)⟩) st⟩
        · cases e
      | _ => cases e
  | _ => cases e
/-- a store to o[i] as a target: mo, mi are read behind the value -/
def gSet (mo mi : TM) : GM := fun d env S => (mo env S).bind fun o S1 => (mi env S1).bind fun i S2 => match setD S2 o i d with
  | some S3 => .ok env S3
  | none => .bad
section
variable {X : Cx} {W : WX} {pos pos' : Pos} {e o i tg : Expr} {me mo mi : TM} {is : List Nat} {g : GM} {n m : AM}
def W0 : WX := fun _ _ _ _ => False
/-- what is read without an exception -/
theorem noexc {α β : Type} {K : PySem.W.Frag} {rel : Rel α β} {ρ : Rho} {H : Hp} {σ : L2.St} {a : α} {S : Sto} {Q : β → Hp → Prop}
    (h : ∀ ρ' H' v, SOk K ρ' S H' → Stp ρ ρ' H H' → rel ρ' H' a v → Q v H') : Post K W0 rel ρ H σ (.ok a S) Q := h
theorem g_set (hu : X.A.units + 1 < cLine) (ho : DE X W0 o mo) (hi : DE X W0 i mi)
    (ha : ∀ v, assign (.Subscript o i pos) X.env v = (do
      let ov ← holding [v] (eval o X.env)
      let iv ← holding [v, ov] (eval i X.env)
      standAt pos
      holding [v, ov, iv] (setItem ov iv v)
      release [v, ov, iv] []) := by intro _; rfl) : DG X [] (.Subscript o i pos) (gSet mo mi) :=
  ⟨PG.imp (pg_sub ho.p hi.p (setD_ok hu) ha) fun v σ H Q ⟨ρ, S, env, d, hS, hE, r, env', S', e, q⟩ => by
    unfold gSet at e
    refine ⟨ρ, S, env, hS, hE, ?_⟩
    cases h1 : mo env S with
    | ok ob S1 =>
      rw [h1] at e
      intro ρ1 H1 v1 hS1 st1 r1
      refine ⟨ρ1, S1, env, hS1, hE.step hS st1, ?_⟩
      simp only [R.bind_ok] at e
      cases h2 : mi env S1 with
      | ok ib S2 =>
        rw [h2] at e
        intro ρ2 H2 v2 hS2 st2 r2
        simp only [R.bind_ok] at e
        cases h3 : setD S2 ob ib d with
        | none => rw [h3] at e; cases e
        | some S3 =>
          rw [h3] at e; cases e
          refine ⟨ρ2, S2, ob, ib, d, S', hS2, r1.step hS1 st2, r2, (r.step hS st1).step hS1 st2, h3, fun ρ3 H3 hS3 st3 => ?_⟩
          exact q ρ3 H3 σ hS3 ((st1.trans st2).trans st3) (((hE.step hS st1).step hS1 st2).step hS2 st3) .refl
      | exc C fs S2 => rw [h2] at e; cases e
      | bad => rw [h2] at e; cases e
    | exc C fs S1 => rw [h1] at e; cases e
    | bad => rw [h1] at e; cases e⟩
/-! ### assignments -/
def sAsg (m : TM) (g : GM) : SM := fun env S => RS.of (m env S) env fun d S1 => match g d env S1 with
  | .ok env' S' => .nx env' S'
  | _ => .bad
theorem s_asg (he : DE X W e me) (hg : DG X is tg g) (hs : swapsWithSole [tg] e pos.line X.env = pure false := by rfl) (hw : swappedStores [tg] e X.env = pure none := by rfl)
    (h1 : (assignEach [tg] X.env).map (·.2) = [assign tg X.env] := by rfl) : DS X W (.Assign [tg] e pos) (sAsg me g) :=
  ⟨PS.imp (ps_asg he.p hg.p hs hw h1) fun T σ H ⟨ρ, S, env, hS, hE, h⟩ => SPost.bindK hS hE h fun v H1 ρ1 S1 a h1 h2 h3 h4 h5 => by
    cases hg : g a env S1 with
    | ok env' S' => rw [hg] at h5; exact ⟨ρ1, S1, env, a, h1, h2, h4, env', S', hg, fun ρ2 H2 σ2 q1 q2 q3 _ => h5 ρ2 H2 σ2 q1 q2 q3⟩
    | exc C fs S' => rw [hg] at h5; exact h5.elim
    | bad => rw [hg] at h5; exact h5.elim⟩
theorem s_set {i : Nat} {x : Str} (hN : X.N.Nodup) (hi : X.N[i]? = some x) (hx : Loc X.env.scope x) (hf : X.fn x = true ∨ X.env.scope.names.lookup x = some .local) (he : DE X W e me)
    (hs : swapsWith e (some (.Name x pos')) pos.line X.env = pure false := by rfl) : DS X W (.Assign [.Name x pos'] e pos) (sAsg me (gN i)) :=
  ⟨PS.imp (ps_set hN hi hx he.p hs hf) fun T σ H ⟨ρ, S, env, hS, hE, h⟩ => SPost.bindK hS hE h fun v H1 ρ1 S1 a h1 h2 h3 h4 h5 => h5 ρ1 H1 _ h1 .refl (h2.set h4)⟩
/-- a, b = x, y of plain local names -/
def sPar (is : List Nat) (n : AM) : SM := fun env S => RS.of (n env S) env fun l S1 => if l.length = is.length then .nx ((is.zip l).foldl (fun en p => en.set p.1 (some p.2)) env) S1 else .bad
theorem s_par2 {i j : Nat} {x y : Str} {a b : Expr} {px py pt : Pos} {kt k2 pt2} (hc : X.calm = true) (hN : X.N.Nodup) (hi : X.N[i]? = some x) (hj : X.N[j]? = some y) (hij : i ≠ j)
    (hx : X.env.scope.names.lookup x = some .local) (hy : X.env.scope.names.lookup y = some .local) (ha : DA X W [a, b] n)
    (hw : swappedStores [.Tuple [.Name x px, .Name y py] kt pt] (.Tuple [a, b] k2 pt2) X.env = pure (some [x, y]) := by rfl)
    (hs : swapsWithSole [.Tuple [.Name x px, .Name y py] kt pt] (.Tuple [a, b] k2 pt2) pos.line X.env = pure false := by rfl) :
    DS X W (.Assign [.Tuple [.Name x px, .Name y py] kt pt] (.Tuple [a, b] k2 pt2) pos) (sPar [i, j] n) :=
  ⟨PS.imp (ps_par hc hN hi hj hij hx hy ha.p hw hs) fun T σ H ⟨ρ, S, env, hS, hE, h⟩ => SPost.bindK hS hE h fun v H1 ρ1 S1 l h1 h2 h3 h4 h5 => by
    split at h5
    · rename_i hl
      match l, hl with
      | [d1, d2], _ =>
        obtain ⟨v1, v2, rfl, r1, r2⟩ := h4.dest2
        exact ⟨v1, v2, rfl, h5 ρ1 H1 _ h1 .refl ((h2.set r1).set r2)⟩
    · exact h5.elim⟩
theorem s_par3 {i j l : Nat} {x y z : Str} {a b c : Expr} {px py pz pt : Pos} {kt k2 pt2} (hc : X.calm = true) (hN : X.N.Nodup) (hi : X.N[i]? = some x) (hj : X.N[j]? = some y) (hl : X.N[l]? = some z) (hij : i ≠ j) (hil : i ≠ l) (hjl : j ≠ l)
    (hx : X.env.scope.names.lookup x = some .local) (hy : X.env.scope.names.lookup y = some .local) (hz : X.env.scope.names.lookup z = some .local) (ha : DA X W [a, b, c] n)
    (hw : swappedStores [.Tuple [.Name x px, .Name y py, .Name z pz] kt pt] (.Tuple [a, b, c] k2 pt2) X.env = pure (some [x, y, z]) := by rfl)
    (hs : swapsWithSole [.Tuple [.Name x px, .Name y py, .Name z pz] kt pt] (.Tuple [a, b, c] k2 pt2) pos.line X.env = pure false := by rfl) :
    DS X W (.Assign [.Tuple [.Name x px, .Name y py, .Name z pz] kt pt] (.Tuple [a, b, c] k2 pt2) pos) (sPar [i, j, l] n) :=
  ⟨PS.imp (ps_par3 hc hN hi hj hl hij hil hjl hx hy hz ha.p hw hs) fun T σ H ⟨ρ, S, env, hS, hE, h⟩ => SPost.bindK hS hE h fun v H1 ρ1 S1 l h1 h2 h3 h4 h5 => by
    split at h5
    · rename_i hl
      match l, hl with
      | [d1, d2, d3], _ =>
        obtain ⟨v1, r, rfl, r1, hr⟩ := h4
        obtain ⟨v2, v3, rfl, r2, r3⟩ := Rps.dest2 hr
        exact ⟨v1, v2, v3, rfl, h5 ρ1 H1 _ h1 .refl (((h2.set r1).set r2).set r3)⟩
    · exact h5.elim⟩
/-- name op= e -/
def ipD (K : PySem.W.Frag) (g : G2) : TIp := rD K g
def sAug (i : Nat) (g : G2) (m : TM) : SM := fun env S => match env[i]? with
  | some (some a) => RS.of (m env S) env fun b S1 => match g S1 a b with
    | some c => .nx (env.set i (some c)) S1
    | none => .bad
  | _ => .bad
theorem s_aug {i : Nat} {x : Str} {op : Operator} {g : G2} (hN : X.N.Nodup) (hi : X.N[i]? = some x) (hx : Loc X.env.scope x) (hf : X.fn x = true ∨ X.env.scope.names.lookup x = some .local) (ho : PIp X op (ipD X.K g)) (he : DE X W e me) :
    DS X W (.AugAssign (.Name x pos') op e pos) (sAug i g me) :=
  ⟨PS.imp (ps_aug hN hi hx he.p ho hf) fun T σ H ⟨ρ, S, env, hS, hE, h⟩ => by
    unfold sAug at h
    split at h
    · rename_i a ha
      obtain ⟨v, h1, r1⟩ := hE.val i a ha
      refine ⟨v, h1, SPost.bindK hS hE h fun y H1 ρ1 S1 b hS1 hE1 st1 r2 h5 => ?_⟩
      cases hg : g S1 a b with
      | none => rw [hg] at h5; exact h5.elim
      | some c =>
        rw [hg] at h5
        exact ⟨ρ1, S1, a, b, c, hS1, r1.step hS st1, r2, hg, fun ρ2 H2 w hS2 st2 r3 => h5 ρ2 H2 _ hS2 st2 ((hE1.step hS1 st2).set r3)⟩
    · exact h.elim⟩
end
/-! ### methods of lists -/
abbrev GMt := Sto → D → List D → Option (D × Sto)
def rM (K : PySem.W.Frag) (g : GMt) : V → List V → Hp → VK → Prop := fun x xs H Q => ∃ ρ S d ds z S', SOk K ρ S H ∧ Rp K ρ H d x ∧ Rps K ρ H ds xs ∧ g S d ds = some (z, S') ∧
  ∀ ρ' H' v, SOk K ρ' S' H' → Stp ρ ρ' H H' → Rp K ρ' H' z v → Q v H'
/-- which built-in type a receiver has -/
def isT (S : Sto) (T : String) (d : D) : Bool := match d with
  | .str _ => T == "str"
  | .lst _ => T == "list"
  | .wls _ => T == "list"
  | .loc n => match S[n]? with
    | some (.lst _) => T == "list"
    | some (.dct _) => T == "dict"
    | some (.dcT _) => T == "dict"
    | _ => false
  | _ => false
theorem isT_ok {K : PySem.W.Frag} {ρ : Rho} {S : Sto} {H : Hp} {T : String} {d : D} {v : V} (hS : SOk K ρ S H) (r : Rp K ρ H d v) (e : isT S T d = true) : tyV K T v H := by
  unfold isT at e
  cases d with
  | str x => cases r; exact eq_of_beq e
  | lst l => obtain ⟨p, vs, rfl, h, _⟩ := r; exact .inl ⟨eq_of_beq e, vs, SqL.of h⟩
  | wls l => obtain ⟨p, vs, rfl, h, _⟩ := r; exact .inl ⟨eq_of_beq e, vs, h.sq⟩
  | loc n =>
    obtain ⟨p, rfl, h1⟩ := r
    simp only at e
    cases hn : S[n]? with
    | none => rw [hn] at e; cases e
    | some ob =>
      obtain ⟨a1, e1, ok⟩ := hS.obj n _ hn
      rw [h1] at e1; cases e1
      rw [hn] at e
      cases ob with
      | lst l => obtain ⟨xs, hx, _⟩ := ok; exact .inl ⟨eq_of_beq e, xs, SqL.of hx⟩
      | dct l => obtain ⟨xs, hx, _⟩ := ok; exact .inr (.inr (.inl ⟨eq_of_beq e, .inl ⟨xs, hx⟩⟩))
      | dcT l => obtain ⟨xs, hx, _⟩ := ok; exact .inr (.inr (.inl ⟨eq_of_beq e, .inr ⟨xs, hx⟩⟩))
      | ins C l => cases e
  | _ => cases e
def mM (T : String) (g : GMt) (m : TM) (n : AM) : TM := fun env S => (m env S).bind fun o S1 => if isT S1 T o = true then (n env S1).bind fun ds S2 => match g S2 o ds with
  | some (z, S3) => .ok z S3
  | none => .bad
  else .bad
section
variable {X : Cx} {W : WX} {pos apos : Pos} {e o : Expr} {es : List Expr} {me mo : TM} {n : AM} {g : GMt} {T id : String} {name : Str}
theorem d_bm0 (pa : PlainAttrs T) (slot : Slot T name id) (hty : typeOf (.builtin id) = pure (.type "method_descriptor")) (hm : MtR X id (rM X.K g)) (ho : DE X W o mo)
    (hbase : attributeBase o name X.env (eval o X.env) = eval o X.env := by rfl) (hline : (apos.endLine == pos.line) = true := by rfl) : DE X W (.Call (.Attribute o name apos) [] [] pos) (mM T g mo aNil) :=
  ⟨PE.imp (pe_bm0 pa slot hty hm ho.p hbase hline) fun σ H Q ⟨ρ, S, env, hS, hE, h⟩ => Post.bindK hS hE h fun x H1 ρ1 S1 d hS1 hE1 st1 r1 h1 => by
    split at h1
    · rename_i ht
      refine ⟨isT_ok hS1 r1 ht, ?_⟩
      simp only [aNil, R.bind_ok] at h1
      cases hg : g S1 d [] with
      | none => rw [hg] at h1; exact h1.elim
      | some z => rw [hg] at h1; exact ⟨ρ1, S1, d, [], z.1, z.2, hS1, r1, rfl, hg, h1⟩
    · exact h1.elim⟩
theorem d_bm (pa : PlainAttrs T) (slot : Slot T name id) (hty : typeOf (.builtin id) = pure (.type "method_descriptor")) (hm : MtR X id (rM X.K g)) (ho : DE X W o mo) (ha : DA X W (e :: es) n)
    (hbase : attributeBase o name X.env (eval o X.env) = eval o X.env := by rfl)
    (hfew : ((backTo pos (starEach (e :: es) X.env)).all (fun x => !x.1) && (backToKw pos (keywordEach [] X.env)).all (fun x => x.1.isSome)
      && decide ((e :: es).length + ([] : List Keyword).length + (if ([] : List Keyword).isEmpty then 0 else 1) < 30)) = true := by rfl)
    (hline : (apos.endLine == pos.line) = true := by rfl) (hs : starEach (e :: es) X.env = (false, eval e X.env) :: starEach es X.env := by rfl) (hplain : (backTo pos (starEach es X.env)).any (·.1) = false := by rfl) :
    DE X W (.Call (.Attribute o name apos) (e :: es) [] pos) (mM T g mo n) :=
  ⟨PE.imp (pe_bm pa slot hty hm ho.p ha.p hbase hfew hline hs hplain) fun σ H Q ⟨ρ, S, env, hS, hE, h⟩ => Post.bindK hS hE h fun x H1 ρ1 S1 d hS1 hE1 st1 r1 h1 => by
    split at h1
    · rename_i ht
      refine ⟨isT_ok hS1 r1 ht, Post.bindK hS1 hE1 h1 fun y H2 ρ2 S2 ds hS2 hE2 st2 r2 h2 => ?_⟩
      cases hg : g S2 d ds with
      | none => rw [hg] at h2; exact h2.elim
      | some z => rw [hg] at h2; exact ⟨ρ2, S2, d, ds, z.1, z.2, hS2, r1.step hS1 st2, r2, hg, h2⟩
    · exact h1.elim⟩
end
def appD : GMt := fun S o ds => match o, ds with
  | .loc n, [d] => match S[n]? with
    | some (.lst l) => if l.length < 16777216 then some (.non, S.set n (.lst (l ++ [d]))) else none
    | _ => none
  | _, _ => none
def popD : GMt := fun S o ds => match o with
  | .loc n => match S[n]? with
    | some (.lst l) => match ds with
      | [] => match l[l.length - 1]? with
        | some y => some (y, S.set n (.lst l.dropLast))
        | none => none
      | [.int i] => if 0 ≤ i ∧ i < 2 ^ 63 then match l[i.toNat]? with
        | some y => some (y, S.set n (.lst (l.eraseIdx i.toNat)))
        | none => none
        else none
      | _ => none
    | _ => none
  | _ => none
def insD : GMt := fun S o ds => match o, ds with
  | .loc n, [.int i, d] => match S[n]? with
    | some (.lst l) => if l.length < 16777216 ∧ 0 ≤ i ∧ i < 2 ^ 63 then some (.non, S.set n (.lst (l.take i.toNat ++ [d] ++ l.drop i.toNat))) else none
    | _ => none
  | _, _ => none
def extD : GMt := fun S o ds => match o, ds with
  | .loc n, [.lst m] => match S[n]? with
    | some (.lst l) => if l.length + m.length ≤ 16777216 then some (.non, S.set n (.lst (l ++ m))) else none
    | _ => none
  | _, _ => none
section
variable {X : Cx} {K : PySem.W.Frag} {ρ : Rho} {S : Sto} {H : Hp}
theorem Rps.dropLast {l : List D} {vs : List V} (h : Rps K ρ H l vs) : Rps K ρ H l.dropLast vs.dropLast := by
  rw [List.dropLast_eq_take, List.dropLast_eq_take, h.length]
  exact h.take _
theorem Rps.eraseIdx {l : List D} {vs : List V} (h : Rps K ρ H l vs) (i : Nat) : Rps K ρ H (l.eraseIdx i) (vs.eraseIdx i) := by
  rw [List.eraseIdx_eq_take_drop_succ, List.eraseIdx_eq_take_drop_succ]
  exact (h.take _).append (h.drop _)
theorem mD_app : MtR X "list.append" (rM X.K appD) := by
  intro pins s σ H x xs v us Q I rx rxs ⟨ρ, S, d, ds, z, S', hS, rd, rds, e, q⟩
  unfold appD at e
  split at e
  · rename_i n d
    split at e
    · rename_i l hn
      split at e
      · rename_i hl
        cases e
        obtain ⟨p, rfl, h1⟩ := rd
        obtain ⟨a1, e1, xs', hx, r1⟩ := hS.obj n _ hn
        rw [h1] at e1; cases e1
        obtain ⟨w, rfl, r2⟩ := rds.dest1
        have st : Stp ρ ρ H (upd H p (.lst (xs' ++ [w]))) := upd_step h1
        refine mt_append pins s σ H _ _ v us Q I rx rxs ⟨p, xs', w, rfl, rfl, hx, by rw [sizeLine16, ← r1.length]; exact hl, ?_⟩
        exact q ρ _ .non (hS.write h1 ⟨_, upd_same, Rps.step hS st _ _ (r1.append ⟨w, [], rfl, r2, rfl⟩)⟩) st rfl
      · cases e
    · cases e
  · cases e
theorem mD_pop : MtR X "list.pop" (rM X.K popD) := by
  intro pins s σ H x xs v us Q I rx rxs ⟨ρ, S, d, ds, z, S', hS, rd, rds, e, q⟩
  unfold popD at e
  split at e
  · rename_i n
    split at e
    · rename_i l hn
      obtain ⟨p, rfl, h1⟩ := rd
      obtain ⟨a1, e1, xs', hx, r1⟩ := hS.obj n _ hn
      rw [h1] at e1; cases e1
      split at e
      · split at e
        · rename_i y hy
          cases e; cases rds
          obtain ⟨w, hw, r2⟩ := r1.get hy
          have st : Stp ρ ρ H (upd H p (.lst xs'.dropLast)) := upd_step h1
          refine mt_pop pins s σ H _ _ v us Q I rx rxs ⟨p, xs', w, rfl, rfl, hx, by rw [← r1.length]; exact hw, ?_⟩
          exact q ρ _ w (hS.write h1 ⟨_, upd_same, Rps.step hS st _ _ r1.dropLast⟩) st (r2.step hS st)
        · cases e
      · rename_i i
        split at e
        · rename_i hi
          split at e
          · rename_i y hy
            cases e
            obtain ⟨w0, rfl, r0⟩ := rds.dest1
            cases r0
            obtain ⟨w, hw, r2⟩ := r1.get hy
            have hlt : i.toNat < xs'.length := (List.getElem?_eq_some_iff.mp hw).1
            have st : Stp ρ ρ H (upd H p (.lst (xs'.eraseIdx i.toNat))) := upd_step h1
            have hix : ixN xs'.length i = some i.toNat := by
              unfold ixN
              rw [if_pos hi.1, if_pos (by omega)]
            refine mt_popAt pins s σ H _ _ v us Q I rx rxs ⟨p, xs', i, i.toNat, w, rfl, rfl, hx, by have := hi.1; omega, hi.2, (ixN_seq hix).1, hw, ?_⟩
            exact q ρ _ w (hS.write h1 ⟨_, upd_same, Rps.step hS st _ _ (r1.eraseIdx _)⟩) st (r2.step hS st)
          · cases e
        · cases e
      · cases e
    · cases e
  · cases e
theorem mD_ins : MtR X "list.insert" (rM X.K insD) := by
  intro pins s σ H x xs v us Q I rx rxs ⟨ρ, S, d, ds, z, S', hS, rd, rds, e, q⟩
  unfold insD at e
  split at e
  · rename_i n i d
    split at e
    · rename_i l hn
      split at e
      · rename_i hl
        cases e
        obtain ⟨p, rfl, h1⟩ := rd
        obtain ⟨a1, e1, xs', hx, r1⟩ := hS.obj n _ hn
        rw [h1] at e1; cases e1
        obtain ⟨w0, w, rfl, r0, r2⟩ := rds.dest2
        cases r0
        have st : Stp ρ ρ H (upd H p (.lst (xs'.take i.toNat ++ [w] ++ xs'.drop i.toNat))) := upd_step h1
        refine mt_insert pins s σ H _ _ v us Q I rx rxs ⟨p, xs', i, w, rfl, rfl, hx, by rw [sizeLine16, ← r1.length]; exact hl.1, hl.2.1, hl.2.2, ?_⟩
        exact q ρ _ .non (hS.write h1 ⟨_, upd_same, Rps.step hS st _ _ (((r1.take _).append (es := [d]) (ws := [w]) ⟨w, [], rfl, r2, rfl⟩).append (r1.drop _))⟩) st rfl
      · cases e
    · cases e
  · cases e
theorem mD_ext : MtR X "list.extend" (rM X.K extD) := by
  intro pins s σ H x xs v us Q I rx rxs ⟨ρ, S, d, ds, z, S', hS, rd, rds, e, q⟩
  unfold extD at e
  split at e
  · rename_i n m
    split at e
    · rename_i l hn
      split at e
      · rename_i hl
        cases e
        obtain ⟨p, rfl, h1⟩ := rd
        obtain ⟨a1, e1, xs', hx, r1⟩ := hS.obj n _ hn
        rw [h1] at e1; cases e1
        obtain ⟨w, rfl, p2, ys, rfl, h2, n2, r2⟩ := rds.dest1
        have st : Stp ρ ρ H (upd H p (.lst (xs' ++ ys))) := upd_step h1
        refine mt_extend pins s σ H _ _ v us Q I rx rxs ⟨p, p2, xs', ys, rfl, rfl, hx, h2, by rw [sizeLine16, ← r1.length, ← r2.length]; exact hl, ?_⟩
        exact q ρ _ .non (hS.write h1 ⟨_, upd_same, Rps.step hS st _ _ (r1.append r2)⟩) st rfl
      · cases e
    · cases e
  · cases e
end
end Mi

namespace Mi
open PySem PySem.Spec PyProof.Rows L2 RZ
/-! ### what is walked: the items, and what must hold of the store at each turn -/
abbrev IM := En → Sto → R (List D × (Sto → Prop))
structure ItOk (K : PySem.W.Frag) (J : It) (l : List D) (gd : Sto → Prop) (ρ : Rho) (H : Hp) : Prop where
  goes : ∀ i ρ' S' H', i < l.length → SOk K ρ' S' H' → Stp ρ ρ' H H' → gd S' → J.go i H'
  stops : ∀ ρ' S' H', SOk K ρ' S' H' → Stp ρ ρ' H H' → gd S' → J.stop l.length H'
  yields : ∀ i ρ' S' H' x H2, i < l.length → SOk K ρ' S' H' → Stp ρ ρ' H H' → gd S' → J.yld i H' x H2 → ∃ d, l[i]? = some d ∧ SOk K ρ' S' H2 ∧ Stp ρ' ρ' H' H2 ∧ Rp K ρ' H2 d x
def tI (K : PySem.W.Frag) (W : WX) (m : IM) : TI := fun σ H Q => ∃ ρ S env, SOk K ρ S H ∧ EOk K ρ H env σ ∧ match m env S with
  | .ok (l, gd) S' => ∀ ρ' H' J, SOk K ρ' S' H' → Stp ρ ρ' H H' → ItOk K J l gd ρ' H' → Q J H'
  | .exc C fs S' => ∀ ρ' H' d vs, SOk K ρ' S' H' → Stp ρ ρ' H H' → ρ'.no d → H' d = some (.xd vs) → KVs K ρ' H' fs vs → W (.ref C) (some d) σ H'
  | .bad => False
structure DI (X : Cx) (W : WX) (tg e : Expr) (m : IM) : Prop where
  p : PI X tg e (tI X.K W m)
theorem PI.imp {X : Cx} {tg e : Expr} {t t' : TI} (h : PI X tg e t) (i : ∀ σ H Q, t' σ H Q → t σ H Q) : PI X tg e t' := ⟨fun pins s σ H Q I q => h.run pins s σ H Q I (i σ H Q q)⟩
theorem PI.or {X : Cx} {tg e : Expr} {t t' : TI} (h : PI X tg e t) (k : PI X tg e t') : PI X tg e (fun σ H Q => t σ H Q ∨ t' σ H Q) := ⟨fun pins s σ H Q I q => q.elim (h.run pins s σ H Q I) (k.run pins s σ H Q I)⟩
/-- a list, a tuple -/
def gdSeq (d : D) (l : List D) : Sto → Prop := match d with
  | .loc _ => fun S => seqD S d = some l
  | _ => fun _ => True
def iSeq (m : TM) : IM := fun env S => (m env S).bind fun d S1 => match seqD S1 d with
  | some l => .ok (l, gdSeq d l) S1
  | none => .bad
section
variable {K : PySem.W.Frag} {ρ ρ' : Rho} {S S' : Sto} {H H' : Hp}
/-- behind a step the items are those that the store tells -/
theorem seq_at {d : D} {v : V} {l : List D} {p : Addr} (hS : SOk K ρ S H) (r : Rp K ρ H d (.ref p)) (e : seqD S d = some l) (hS' : SOk K ρ' S' H') (st : Stp ρ ρ' H H') (g : gdSeq d l S') :
    ∃ vs, Rps K ρ' H' l vs ∧ ((SqL K H' p vs ∧ ∀ m, d ≠ .tup m) ∨ (SqT K H' p vs ∧ d = .tup l)) := by
  have r' := r.step hS st
  have e' : seqD S' d = some l := by
    cases d with
    | loc n => exact g
    | _ => exact e
  obtain ⟨q, vs, e2, h1, h2⟩ := der_seq hS' r' e'
  cases e2
  refine ⟨vs, h2, ?_⟩
  rcases h1 with ⟨h1, h3⟩ | ⟨h1, h3⟩
  · refine .inl ⟨h1, fun m z => ?_⟩
    subst z
    cases h3
  · exact .inr ⟨h1.sq, h3⟩
theorem YAt_get {l : List D} {vs : List V} {i : Nat} {x : V} (h : Rps K ρ H l vs) (e : vs[i]? = some x) : ∃ d, l[i]? = some d ∧ Rp K ρ H d x := by
  have hi : i < l.length := by rw [h.length]; exact (List.getElem?_eq_some_iff.mp e).1
  obtain ⟨v, h1, h2⟩ := h.get (d := l[i]) (i := i) (by simp [hi])
  rw [e] at h1; cases h1
  exact ⟨l[i], by simp [hi], h2⟩
theorem it_lst {d : D} {l : List D} {p : Addr} (hS : SOk K ρ S H) (r : Rp K ρ H d (.ref p)) (e : seqD S d = some l) (hd : ∀ m, d ≠ .tup m) : ItOk K (Itl K p) l (gdSeq d l) ρ H := by
  refine ⟨fun i ρ' S' H' hi hS' st g => ?_, fun ρ' S' H' hS' st g => ?_, fun i ρ' S' H' x H2 hi hS' st g y => ?_⟩
  all_goals
    obtain ⟨vs, h2, h1⟩ := seq_at (v := .ref p) hS r e hS' st g
    rcases h1 with ⟨h1, _⟩ | ⟨_, h3⟩
    case inr => exact absurd h3 (hd l)
  · exact ⟨vs, vs[i]'(by rw [← h2.length]; exact hi), h1, by simp [h2.length ▸ hi]⟩
  · exact ⟨vs, h1, by rw [h2.length]; exact Nat.le_refl _⟩
  · obtain ⟨e1, y⟩ := y
    subst e1
    obtain ⟨d', e2, r2⟩ := YAt_get h2 (y vs h1)
    exact ⟨d', e2, hS', .refl, r2⟩
theorem it_tup {l : List D} {p : Addr} (hS : SOk K ρ S H) (r : Rp K ρ H (.tup l) (.ref p)) : ItOk K (Itt K p) l (gdSeq (.tup l) l) ρ H := by
  refine ⟨fun i ρ' S' H' hi hS' st g => ?_, fun ρ' S' H' hS' st g => ?_, fun i ρ' S' H' x H2 hi hS' st g y => ?_⟩
  all_goals
    obtain ⟨vs, h2, h1⟩ := seq_at (v := .ref p) hS r rfl hS' st g
    rcases h1 with ⟨_, h3⟩ | ⟨h1, _⟩
    case inl => exact absurd rfl (h3 l)
  · exact ⟨vs, vs[i]'(by rw [← h2.length]; exact hi), h1, by simp [h2.length ▸ hi]⟩
  · exact ⟨vs, h1, by rw [h2.length]; exact Nat.le_refl _⟩
  · obtain ⟨e1, y⟩ := y
    subst e1
    obtain ⟨d', e2, r2⟩ := YAt_get h2 (y vs h1)
    exact ⟨d', e2, hS', .refl, r2⟩
end
section
variable {X : Cx} {W : WX} {tg e e2 : Expr} {m : TM} {n : AM} {p pos tpos : Pos} {elts : List Expr} {kk : Nat}
theorem tI.bindK {α β : Type} {K : PySem.W.Frag} {rel : Rel α β} {ρ : Rho} {S : Sto} {H : Hp} {env : En} {σ : L2.St} {m : En → Sto → R α} {f : α → Sto → R (List D × (Sto → Prop))} {Q : It → Hp → Prop} {Q1 : β → Hp → Prop} (hS : SOk K ρ S H) (hE : EOk K ρ H env σ)
    (h : match (m env S).bind f with
      | .ok (l, gd) S' => ∀ ρ' H' J, SOk K ρ' S' H' → Stp ρ ρ' H H' → ItOk K J l gd ρ' H' → Q J H'
      | .exc C fs S' => ∀ ρ' H' d vs, SOk K ρ' S' H' → Stp ρ ρ' H H' → ρ'.no d → H' d = some (.xd vs) → KVs K ρ' H' fs vs → W (.ref C) (some d) σ H'
      | .bad => False)
    (k : ∀ v H1 ρ1 S1 a, SOk K ρ1 S1 H1 → EOk K ρ1 H1 env σ → Stp ρ ρ1 H H1 → rel ρ1 H1 a v → (match f a S1 with
      | .ok (l, gd) S' => ∀ ρ' H' J, SOk K ρ' S' H' → Stp ρ1 ρ' H1 H' → ItOk K J l gd ρ' H' → Q J H'
      | .exc C fs S' => ∀ ρ' H' d vs, SOk K ρ' S' H' → Stp ρ1 ρ' H1 H' → ρ'.no d → H' d = some (.xd vs) → KVs K ρ' H' fs vs → W (.ref C) (some d) σ H'
      | .bad => False) → Q1 v H1) :
    tG K W rel m σ H Q1 := by
  refine ⟨ρ, S, env, hS, hE, ?_⟩
  revert h
  generalize m env S = r
  intro h
  cases r with
  | ok a S1 =>
    intro ρ2 H2 v h1 h2 h3
    refine k v H2 ρ2 S1 a h1 (hE.step hS h2) h2 h3 ?_
    simp only [R.bind_ok] at h
    revert h
    generalize f a S1 = r2
    intro h
    cases r2 with
    | ok b S2 => exact fun ρ' H' J q1 q2 q3 => h ρ' H' J q1 (h2.trans q2) q3
    | exc C fs S2 => exact fun ρ' H' d vs q1 q2 q3 q4 q5 => h ρ' H' d vs q1 (h2.trans q2) q3 q4 q5
    | bad => exact h
  | exc C fs S1 => exact h
  | bad => exact h
theorem i_seq (h : DE X W e m) : DI X W tg e (iSeq m) :=
  ⟨PI.imp (PI.or (pi_list h.p) (pi_tup h.p)) fun σ H Q ⟨ρ, S, env, hS, hE, h⟩ => by
    unfold iSeq at h
    cases hm : m env S with
    | ok d S1 =>
      rw [hm] at h
      simp only [R.bind_ok] at h
      cases hl : seqD S1 d with
      | none => rw [hl] at h; exact h.elim
      | some l =>
        rw [hl] at h
        by_cases hd : ∃ m, d = .tup m
        · obtain ⟨m', rfl⟩ := hd
          cases hl
          refine .inr ⟨ρ, S, env, hS, hE, ?_⟩
          rw [hm]
          intro ρ1 H1 v hS1 st1 r1
          obtain ⟨p, vs, rfl, h2, h3⟩ := id r1
          exact ⟨p, rfl, ⟨vs, h2.sq⟩, h ρ1 H1 _ hS1 st1 (it_tup hS1 r1)⟩
        · refine .inl ⟨ρ, S, env, hS, hE, ?_⟩
          rw [hm]
          intro ρ1 H1 v hS1 st1 r1
          obtain ⟨p, vs, rfl, h2, h3⟩ := der_seq hS1 r1 hl
          have hd' : ∀ m, d ≠ .tup m := fun m z => hd ⟨m, z⟩
          rcases h2 with ⟨h2, _⟩ | ⟨_, h4⟩
          · exact ⟨p, rfl, ⟨vs, h2⟩, h ρ1 H1 _ hS1 st1 (it_lst hS1 r1 hl hd')⟩
          · exact absurd h4 (hd' l)
    | exc C fs S1 =>
      rw [hm] at h
      refine .inl ⟨ρ, S, env, hS, hE, ?_⟩
      rw [hm]
      exact h
    | bad => rw [hm] at h; exact h.elim⟩
/-! range -/
def rangeD (lo : Int) (n : Nat) : List D := (List.range n).map fun (i : Nat) => D.int (lo + (i : Int))
def iRng1 (n : AM) : IM := fun env S => (n env S).bind fun ds S1 => match ds with
  | [.int j] => if -1000000000 ≤ j ∧ j ≤ 1000000000 then .ok (rangeD 0 j.toNat, fun _ => True) S1 else .bad
  | _ => .bad
def iRng2 (n : AM) : IM := fun env S => (n env S).bind fun ds S1 => match ds with
  | [.int i, .int j] => if -1000000000 ≤ i ∧ i ≤ 1000000000 ∧ -1000000000 ≤ j ∧ j ≤ 1000000000 then .ok (rangeD i (j - i).toNat, fun _ => True) S1 else .bad
  | _ => .bad
theorem rangeD_length {lo : Int} {n : Nat} : (rangeD lo n).length = n := by unfold rangeD; simp
theorem rangeD_get {lo : Int} {n i : Nat} (h : i < n) : (rangeD lo n)[i]? = some (D.int (lo + (i : Int))) := by unfold rangeD; simp [h]
theorem it_rng {K : PySem.W.Frag} {ρ : Rho} {H : Hp} {lo : Int} {n : Nat} : ItOk K (Itr lo n) (rangeD lo n) (fun _ => True) ρ H := by
  refine ⟨fun i _ _ _ hi _ _ _ => by rw [rangeD_length] at hi; exact hi, fun _ _ _ _ _ _ => by rw [rangeD_length]; exact Nat.le_refl _, fun i ρ' S' H' x H2 hi hS' st _ y => ?_⟩
  obtain ⟨e1, e2⟩ := y
  subst e1 e2
  rw [rangeD_length] at hi
  exact ⟨D.int (lo + (i : Int)), rangeD_get hi, hS', .refl, rfl⟩
theorem i_rng1 (hg : Gl X "range") (hm : X.mg "range" = none) (ha : DA X W [e] n) (hs : starEach [e] X.env = [(false, eval e X.env)] := by rfl) : DI X W tg (.Call (.Name "range" p) [e] [] pos) (iRng1 n) :=
  ⟨PI.imp (pi_range1 hg hm ha.p hs) fun σ H Q ⟨ρ, S, env, hS, hE, h⟩ => tI.bindK hS hE h fun v H1 ρ1 S1 ds hS1 hE1 st1 r1 h1 => by
    split at h1
    · rename_i l gd S' heq
      split at heq
      · split at heq
        · rename_i j hj
          cases heq
          obtain ⟨w, rfl, r2⟩ := r1.dest1
          cases r2
          exact ⟨j, rfl, by omega, by omega, h1 ρ1 H1 _ hS1 .refl it_rng⟩
        · cases heq
      · cases heq
    · rename_i heq
      split at heq
      · split at heq <;> cases heq
      · cases heq
    · exact h1.elim⟩
theorem i_rng2 (hg : Gl X "range") (hm : X.mg "range" = none) (ha : DA X W [e, e2] n) (hs : starEach [e, e2] X.env = [(false, eval e X.env), (false, eval e2 X.env)] := by rfl) (hs2 : starEach [e2] X.env = [(false, eval e2 X.env)] := by rfl) : DI X W tg (.Call (.Name "range" p) [e, e2] [] pos) (iRng2 n) :=
  ⟨PI.imp (pi_range2 hg hm ha.p hs hs2) fun σ H Q ⟨ρ, S, env, hS, hE, h⟩ => tI.bindK hS hE h fun v H1 ρ1 S1 ds hS1 hE1 st1 r1 h1 => by
    split at h1
    · rename_i l gd S' heq
      split at heq
      · split at heq
        · rename_i i j hj
          cases heq
          obtain ⟨w, w2, rfl, r2, r3⟩ := r1.dest2
          cases r2; cases r3
          exact ⟨i, j, rfl, ⟨by omega, by omega, by omega, by omega⟩, h1 ρ1 H1 _ hS1 .refl it_rng⟩
        · cases heq
      · cases heq
    · rename_i heq
      split at heq
      · split at heq <;> cases heq
      · cases heq
    · exact h1.elim⟩
/-! zip of two lists or of two tuples -/
def zipD (l m : List D) : List D := (l.zip m).map fun p => D.tup [p.1, p.2]
def iZipD (n : AM) : IM := fun env S => (n env S).bind fun ds S1 => match ds with
  | [.tup l, .tup m] => .ok (zipD l m, fun _ => True) S1
  | [a, b] => match lstD S1 a, lstD S1 b with
    | some l, some m => .ok (zipD l m, fun S => gdSeq a l S ∧ gdSeq b m S) S1
    | _, _ => .bad
  | _ => .bad
theorem zipD_length {l m : List D} : (zipD l m).length = min l.length m.length := by unfold zipD; simp
theorem zipD_get {l m : List D} {i : Nat} {x y : D} (h1 : l[i]? = some x) (h2 : m[i]? = some y) : (zipD l m)[i]? = some (D.tup [x, y]) := by
  unfold zipD
  rw [List.getElem?_map]
  have : (l.zip m)[i]? = some (x, y) := by
    rw [List.getElem?_zip_eq_some]
    exact ⟨h1, h2⟩
  rw [this]; rfl
theorem seqD_of_lst {S : Sto} {d : D} {l : List D} (h : lstD S d = some l) : seqD S d = some l := by
  unfold lstD at h
  unfold seqD
  split at h
  · rename_i l' hd; rw [hd]; exact h
  · rename_i l' hd; rw [hd]; exact h
  · cases h
section
variable {K : PySem.W.Frag} {ρ : Rho} {S : Sto} {H : Hp}
/-- a new pair -/
theorem new_pair {ρ' : Rho} {S' : Sto} {H' H2 : Hp} {T : Addr} {x y : V} {d e : D} (hS : SOk K ρ' S' H') (r1 : Rp K ρ' H' d x) (r2 : Rp K ρ' H' e y) (hT : H' T = none) (e2 : H2 = upd H' T (.tup [x, y])) :
    SOk K ρ' S' H2 ∧ Stp ρ' ρ' H' H2 ∧ Rp K ρ' H2 (.tup [d, e]) (.ref T) := by
  subst e2
  have rr : Rps K ρ' H' [d, e] [x, y] := ⟨x, [y], rfl, r1, y, [], rfl, r2, rfl⟩
  exact ⟨hS.alloc hT, .alloc hT, T, _, rfl, .inl upd_same, Rps.step hS (.alloc hT) _ _ rr⟩
theorem it_zipL {a b : D} {l m : List D} {p q : Addr} (hS : SOk K ρ S H) (r1 : Rp K ρ H a (.ref p)) (r2 : Rp K ρ H b (.ref q)) (e1 : lstD S a = some l) (e2 : lstD S b = some m) (n1 : ∀ k, a ≠ .tup k) (n2 : ∀ k, b ≠ .tup k) :
    ItOk K (Itz K p q) (zipD l m) (fun S => gdSeq a l S ∧ gdSeq b m S) ρ H := by
  refine ⟨fun i ρ' S' H' hi hS' st g => ?_, fun ρ' S' H' hS' st g => ?_, fun i ρ' S' H' x H2 hi hS' st g y => ?_⟩
  all_goals
    obtain ⟨vs, h2, h1⟩ := seq_at (v := .ref p) hS r1 (seqD_of_lst e1) hS' st g.1
    obtain ⟨ws, h4, h3⟩ := seq_at (v := .ref q) hS r2 (seqD_of_lst e2) hS' st g.2
    rcases h1 with ⟨h1, _⟩ | ⟨_, h5⟩
    case inr => exact absurd h5 (n1 l)
    rcases h3 with ⟨h3, _⟩ | ⟨_, h5⟩
    case inr => exact absurd h5 (n2 m)
  · rw [zipD_length] at hi
    have i1 : i < vs.length := by rw [← h2.length]; omega
    have i2 : i < ws.length := by rw [← h4.length]; omega
    exact ⟨vs, ws, vs[i], ws[i], h1, h3, by simp [i1], by simp [i2]⟩
  · rw [zipD_length]
    exact ⟨vs, ws, h1, h3, by rw [← h2.length, ← h4.length]; omega⟩
  · obtain ⟨T, x1, y1, rfl, hT, e3, y2, y3⟩ := y
    obtain ⟨d1, g1, s1⟩ := YAt_get h2 (y2 vs h1)
    obtain ⟨d2, g2, s2⟩ := YAt_get h4 (y3 ws h3)
    obtain ⟨q1, q2, q3⟩ := new_pair hS' s1 s2 hT e3
    exact ⟨_, zipD_get g1 g2, q1, q2, q3⟩
theorem it_zipT {l m : List D} {p q : Addr} (hS : SOk K ρ S H) (r1 : Rp K ρ H (.tup l) (.ref p)) (r2 : Rp K ρ H (.tup m) (.ref q)) : ItOk K (ItzT K p q) (zipD l m) (fun _ => True) ρ H := by
  refine ⟨fun i ρ' S' H' hi hS' st g => ?_, fun ρ' S' H' hS' st g => ?_, fun i ρ' S' H' x H2 hi hS' st g y => ?_⟩
  all_goals
    obtain ⟨vs, h2, h1⟩ := seq_at (v := .ref p) (l := l) hS r1 rfl hS' st trivial
    obtain ⟨ws, h4, h3⟩ := seq_at (v := .ref q) (l := m) hS r2 rfl hS' st trivial
    rcases h1 with ⟨_, h5⟩ | ⟨h1, _⟩
    case inl => exact absurd rfl (h5 l)
    rcases h3 with ⟨_, h5⟩ | ⟨h3, _⟩
    case inl => exact absurd rfl (h5 m)
  · rw [zipD_length] at hi
    have i1 : i < vs.length := by rw [← h2.length]; omega
    have i2 : i < ws.length := by rw [← h4.length]; omega
    exact ⟨vs, ws, vs[i], ws[i], h1, h3, by simp [i1], by simp [i2]⟩
  · rw [zipD_length]
    exact ⟨vs, ws, h1, h3, by rw [← h2.length, ← h4.length]; omega⟩
  · obtain ⟨T, x1, y1, rfl, hT, e3, y2, y3⟩ := y
    obtain ⟨d1, g1, s1⟩ := YAt_get h2 (y2 vs h1)
    obtain ⟨d2, g2, s2⟩ := YAt_get h4 (y3 ws h3)
    obtain ⟨q1, q2, q3⟩ := new_pair hS' s1 s2 hT e3
    exact ⟨_, zipD_get g1 g2, q1, q2, q3⟩
end
theorem lst_not_tup {S : Sto} {a : D} {l : List D} (h : lstD S a = some l) : ∀ k, a ≠ .tup k := fun k z => by subst z; cases h
theorem i_zip (hg : Gl X "zip") (hm : X.mg "zip" = none) (ha : DA X W [e, e2] n) (hs : starEach [e, e2] X.env = (false, eval e X.env) :: starEach [e2] X.env := by rfl) (hpl : (backTo pos (starEach [e2] X.env)).any (·.1) = false := by rfl) :
    DI X W (.Tuple elts kk tpos) (.Call (.Name "zip" p) [e, e2] [] pos) (iZipD n) :=
  ⟨PI.imp (pi_zipA hg hm ha.p hs hpl) fun σ H Q ⟨ρ, S, env, hS, hE, h⟩ => tI.bindK hS hE h fun v H1 ρ1 S1 ds hS1 hE1 st1 r1 h1 => by
    match ds with
    | [] => exact h1.elim
    | [a] => cases a <;> exact False.elim h1
    | a :: b :: _ :: _ => cases a <;> first | exact False.elim h1 | (cases b <;> exact False.elim h1)
    | [a, b] =>
      obtain ⟨w1, w2, rfl, s1, s2⟩ := r1.dest2
      have lists : ∀ l m, lstD S1 a = some l → lstD S1 b = some m → (∀ ρ' H' J, SOk X.K ρ' S1 H' → Stp ρ1 ρ' H1 H' → ItOk X.K J (zipD l m) (fun S => gdSeq a l S ∧ gdSeq b m S) ρ' H' → Q J H') → iZipA X.K (fun σ H Q => Q [w1, w2] H) σ H1 Q := by
        intro l m ea eb hq
        obtain ⟨p, vs, e1, h2, h3⟩ := der_lst hS1 s1 ea
        obtain ⟨q, ws, e2, h4, h5⟩ := der_lst hS1 s2 eb
        subst e1 e2
        exact ⟨p, q, vs, ws, rfl, .inl ⟨h2, h4, hq ρ1 H1 _ hS1 .refl (it_zipL hS1 s1 s2 ea eb (lst_not_tup ea) (lst_not_tup eb))⟩⟩
      by_cases ht : ∃ l m, a = .tup l ∧ b = .tup m
      · obtain ⟨l, m, rfl, rfl⟩ := ht
        obtain ⟨p, vs, rfl, h2, h3⟩ := id s1
        obtain ⟨q, ws, rfl, h4, h5⟩ := id s2
        exact ⟨p, q, vs, ws, rfl, .inr ⟨h2.sq, h4.sq, h1 ρ1 H1 _ hS1 .refl (it_zipT hS1 s1 s2)⟩⟩
      · have h1' : match (match lstD S1 a, lstD S1 b with
          | some l, some m => (R.ok (zipD l m, fun S => gdSeq a l S ∧ gdSeq b m S) S1 : R (List D × (Sto → Prop)))
          | _, _ => .bad) with
          | .ok (l, gd) S' => ∀ ρ' H' J, SOk X.K ρ' S' H' → Stp ρ1 ρ' H1 H' → ItOk X.K J l gd ρ' H' → Q J H'
          | .exc C fs S' => ∀ ρ' H' d vs, SOk X.K ρ' S' H' → Stp ρ1 ρ' H1 H' → ρ'.no d → H' d = some (.xd vs) → KVs X.K ρ' H' fs vs → W (.ref C) (some d) σ H'
          | .bad => False := by
          cases a <;> first
            | (cases b <;> first
                | exact absurd ⟨_, _, rfl, rfl⟩ ht
                | exact h1)
            | exact h1
        cases ea : lstD S1 a with
        | none => rw [ea] at h1'; exact h1'.elim
        | some l =>
          cases eb : lstD S1 b with
          | none => rw [ea, eb] at h1'; exact h1'.elim
          | some m =>
            rw [ea, eb] at h1'
            exact lists l m ea eb h1'⟩
/-! enumerate(list) -/
def enumD (l : List D) : List D := zipD (rangeD 0 l.length) l
def iEnD (n : AM) : IM := fun env S => (n env S).bind fun ds S1 => match ds with
  | [a] => match lstD S1 a with
    | some l => .ok (enumD l, gdSeq a l) S1
    | _ => .bad
  | _ => .bad
section
variable {K : PySem.W.Frag} {ρ : Rho} {S : Sto} {H : Hp}
theorem enumD_length {l : List D} : (enumD l).length = l.length := by unfold enumD; rw [zipD_length, rangeD_length]; omega
theorem it_enumL {a : D} {l : List D} {p : Addr} (hS : SOk K ρ S H) (r1 : Rp K ρ H a (.ref p)) (e1 : lstD S a = some l) : ItOk K (Ite K p) (enumD l) (gdSeq a l) ρ H := by
  have n1 := lst_not_tup e1
  refine ⟨fun i ρ' S' H' hi hS' st g => ?_, fun ρ' S' H' hS' st g => ?_, fun i ρ' S' H' x H2 hi hS' st g y => ?_⟩
  all_goals
    obtain ⟨vs, h2, h1⟩ := seq_at (v := .ref p) hS r1 (seqD_of_lst e1) hS' st g
    rcases h1 with ⟨h1, _⟩ | ⟨_, h5⟩
    case inr => exact absurd h5 (n1 l)
  · rw [enumD_length] at hi
    have i1 : i < vs.length := by rw [← h2.length]; omega
    exact ⟨vs, vs[i], h1, by simp [i1]⟩
  · rw [enumD_length]
    exact ⟨vs, h1, by rw [← h2.length]; omega⟩
  · obtain ⟨T, x1, rfl, hT, e3, y2⟩ := y
    obtain ⟨d1, g1, s1⟩ := YAt_get h2 (y2 vs h1)
    rw [enumD_length] at hi
    have gi := rangeD_get (lo := 0) hi
    have z0 : (0 : Int) + (i : Int) = (i : Int) := Int.zero_add _
    rw [z0] at gi
    obtain ⟨q1, q2, q3⟩ := new_pair (d := .int (i : Int)) hS' rfl s1 hT e3
    exact ⟨_, zipD_get gi g1, q1, q2, q3⟩
end
theorem i_enum (hg : Gl X "enumerate") (hm : X.mg "enumerate" = none) (ha : DA X W [e] n) (hs : starEach [e] X.env = [(false, eval e X.env)] := by rfl) : DI X W (.Tuple elts kk tpos) (.Call (.Name "enumerate" p) [e] [] pos) (iEnD n) :=
  ⟨PI.imp (pi_enum hg hm ha.p hs) fun σ H Q ⟨ρ, S, env, hS, hE, h⟩ => tI.bindK hS hE h fun v H1 ρ1 S1 ds hS1 hE1 st1 r1 h1 => by
    match ds with
    | [] => exact False.elim h1
    | a :: b :: _ => exact False.elim h1
    | [a] =>
      obtain ⟨w1, rfl, s1⟩ := r1.dest1
      simp only at h1
      cases ea : lstD S1 a with
      | none => rw [ea] at h1; exact False.elim h1
      | some l =>
        rw [ea] at h1
        obtain ⟨p, vs, e1, h2, h3⟩ := der_lst hS1 s1 ea
        subst e1
        exact ⟨p, vs, rfl, h2, h1 ρ1 H1 _ hS1 .refl (it_enumL hS1 s1 ea)⟩⟩
/-! ### for -/
open Classical in
noncomputable def forD (g : GM) (body : SM) (gd : Sto → Prop) : List D → En → Sto → RS
  | [], env, S => if gd S then .nx env S else .bad
  | d :: ds, env, S => if gd S then match g d env S with
    | .ok env1 S1 => match body env1 S1 with
      | .nx env2 S2 => forD g body gd ds env2 S2
      | .ct env2 S2 => forD g body gd ds env2 S2
      | .bk env2 S2 => .nx env2 S2
      | r => r
    | _ => .bad
    else .bad
noncomputable def sFor (i : IM) (g : GM) (body : SM) : SM := fun env S => RS.of (i env S) env fun p S1 => forD g body p.2 p.1 env S1
theorem s_for {body : List Stmt} {i : IM} {is : List Nat} {g : GM} {mb : SM} (hp : PassesOwn (model X.prog X.w) X.A X.env X.xe) (hc : X.calm = true) (hi : DI X W tg e i) (hg : DG X is tg g) (hb : DB X W body mb)
    (hs : ∀ x, foldedSetIterable e X.env x = pure x := by intro _; rfl) : DS X W (.For tg e body [] pos) (sFor i g mb) :=
  ⟨PS.imp (ps_for hp hc hi.p hg.p hb.p hs) fun T σ H ⟨ρ, S, env, hS, hE, h⟩ => by
    refine ⟨ρ, S, env, hS, hE, ?_⟩
    unfold sFor at h
    cases hi' : i env S with
    | exc C fs S1 =>
      rw [hi'] at h
      exact fun ρ' H' d vs q1 q2 q3 q4 q5 => h ρ' H' σ d vs q1 q2 (hE.step hS q2) q3 q4 q5
    | bad => rw [hi'] at h; exact h.elim
    | ok p S1 =>
      obtain ⟨l, gd⟩ := p
      rw [hi'] at h
      simp only [RS.of_ok] at h
      intro ρ1 H1 J hS1 st1 it
      -- the turn's word: what is left of the loop gives the end that is wanted
      refine ⟨fun k m σ' H' => m = l.length - k ∧ k ≤ l.length ∧ ∃ ρ' S' env', SOk X.K ρ' S' H' ∧ EOk X.K ρ' H' env' σ' ∧ Stp ρ1 ρ' H1 H' ∧ SPost X.K W T ρ' H' (forD g mb gd (l.drop k) env' S'), ⟨l.length, by simp, Nat.zero_le _, ρ1, S1, env, hS1, hE.step hS st1, .refl, by simpa using h.step st1⟩, ?_⟩
      rintro k m σ' H' ⟨rfl, hk, ρ', S', env', hS', hE', st', h'⟩
      by_cases hlt : k < l.length
      · right
        rw [List.drop_eq_getElem_cons hlt] at h'
        unfold forD at h'
        split at h'
        · rename_i hgd
          refine ⟨it.goes k ρ' S' H' hlt hS' st' hgd, fun σ2 H2 => ∃ ρ2 S2 env2, SOk X.K ρ2 S2 H2 ∧ EOk X.K ρ2 H2 env2 σ2 ∧ Stp ρ1 ρ2 H1 H2 ∧ SPost X.K W T ρ2 H2 (forD g mb gd (l.drop (k + 1)) env2 S2),
            fun σ2 H2 q => ⟨l.length - (k + 1), by omega, rfl, hlt, q⟩, fun x H2 y => ?_⟩
          obtain ⟨d, hd, hS2, st2, r2⟩ := it.yields k ρ' S' H' x H2 hlt hS' st' hgd y
          have hd' : d = l[k] := by simp [hlt] at hd; exact hd.symm
          subst hd'
          cases hg' : g l[k] env' S' with
          | ok env3 S3 =>
            rw [hg'] at h'
            refine ⟨ρ', S', env', l[k], hS2, hE'.step hS' st2, r2, env3, S3, hg', fun ρ4 H4 σ4 hS4 st4 hE4 _ => ?_⟩
            refine ⟨ρ4, S3, env3, hS4, hE4, ?_⟩
            have stA : Stp ρ' ρ4 H' H4 := st2.trans st4
            simp only at h'
            cases hb' : mb env3 S3 with
            | nx env5 S5 => rw [hb'] at h'; exact fun ρ6 H6 σ6 h1 h2 h3 => ⟨ρ6, S5, env5, h1, h3, st'.trans (stA.trans h2), h'.step (stA.trans h2)⟩
            | ct env5 S5 => rw [hb'] at h'; exact fun ρ6 H6 σ6 h1 h2 h3 => ⟨ρ6, S5, env5, h1, h3, st'.trans (stA.trans h2), h'.step (stA.trans h2)⟩
            | bk env5 S5 => rw [hb'] at h'; exact fun ρ6 H6 σ6 h1 h2 h3 => h' ρ6 H6 σ6 h1 (stA.trans h2) h3
            | rt d5 S5 => rw [hb'] at h'; exact fun ρ6 H6 v h1 h2 h3 => h' ρ6 H6 v h1 (stA.trans h2) h3
            | exc C fs env5 S5 => rw [hb'] at h'; exact fun ρ6 H6 σ6 d vs h1 h2 h3 h4 h5 h6 => h' ρ6 H6 σ6 d vs h1 (stA.trans h2) h3 h4 h5 h6
            | bad => rw [hb'] at h'; exact h'.elim
          | exc C fs S3 => rw [hg'] at h'; exact h'.elim
          | bad => rw [hg'] at h'; exact h'.elim
        · exact h'.elim
      · left
        have ek : k = l.length := by omega
        subst ek
        rw [List.drop_length] at h'
        unfold forD at h'
        split at h'
        · rename_i hgd
          exact ⟨it.stops ρ' S' H' hS' st' hgd, h' ρ' H' σ' hS' .refl hE'⟩
        · exact h'.elim⟩
/-! ### while -/
/-- n turns at most -/
def whileN (c : BM) (body : SM) : Nat → En → Sto → RS
  | 0, _, _ => .bad
  | n + 1, env, S => RS.of (c env S) env fun b S1 => if b = true then match body env S1 with
    | .nx env2 S2 => whileN c body n env2 S2
    | .ct env2 S2 => whileN c body n env2 S2
    | .bk env2 S2 => .nx env2 S2
    | r => r
    else .nx env S1
open Classical in
noncomputable def sWhile (c : BM) (body : SM) : SM := fun env S => if h : ∃ n, whileN c body n env S ≠ .bad then whileN c body (choose h) env S else .bad
theorem whileN_more {c : BM} {body : SM} : ∀ {n : Nat} {env : En} {S : Sto}, whileN c body n env S ≠ .bad → whileN c body (n + 1) env S = whileN c body n env S
  | 0, env, S, h => absurd rfl h
  | n + 1, env, S, h => by
    unfold whileN at h
    rw [whileN, whileN]
    cases hc : c env S with
    | ok b S1 =>
      rw [hc] at h
      simp only [RS.of_ok] at h ⊢
      cases b with
      | false => rfl
      | true =>
        simp only [if_true] at h ⊢
        cases hb : body env S1 with
        | nx env2 S2 => rw [hb] at h; exact whileN_more h
        | ct env2 S2 => rw [hb] at h; exact whileN_more h
        | bk env2 S2 => rfl
        | rt d S2 => rfl
        | exc C fs env2 S2 => rfl
        | bad => rfl
    | exc C fs S1 => rfl
    | bad => rfl
theorem whileN_le {c : BM} {body : SM} {n m : Nat} {env : En} {S : Sto} (h : whileN c body n env S ≠ .bad) (hm : n ≤ m) : whileN c body m env S = whileN c body n env S := by
  induction m with
  | zero => have : n = 0 := by omega
            subst this; rfl
  | succ m ih =>
    by_cases e : n = m + 1
    · subst e; rfl
    · have e1 := ih (by omega)
      rw [whileN_more (by rw [e1]; exact h), e1]
theorem sWhile_eq {c : BM} {body : SM} {n : Nat} {env : En} {S : Sto} (h : whileN c body n env S ≠ .bad) : sWhile c body env S = whileN c body n env S := by
  classical
  have hx : ∃ n, whileN c body n env S ≠ .bad := ⟨n, h⟩
  unfold sWhile
  rw [dif_pos hx]
  have h2 := Classical.choose_spec hx
  rcases Nat.le_total n (Classical.choose hx) with q | q
  · exact whileN_le h q
  · exact (whileN_le h2 q).symm
/-- one turn -/
theorem sWhile_unfold {c : BM} {body : SM} (env : En) (S : Sto) : sWhile c body env S = RS.of (c env S) env fun b S1 => if b = true then match body env S1 with
    | .nx env2 S2 => sWhile c body env2 S2
    | .ct env2 S2 => sWhile c body env2 S2
    | .bk env2 S2 => .nx env2 S2
    | r => r
    else .nx env S1 := by
  classical
  by_cases hx : ∃ n, whileN c body n env S ≠ .bad
  · obtain ⟨n, hn⟩ := hx
    rw [sWhile_eq hn]
    cases n with
    | zero => exact absurd rfl hn
    | succ n =>
      unfold whileN at hn ⊢
      cases hc : c env S with
      | ok b S1 =>
        rw [hc] at hn
        simp only [RS.of_ok] at hn ⊢
        cases b with
        | false => rfl
        | true =>
          simp only [if_true] at hn ⊢
          cases hb : body env S1 with
          | nx env2 S2 => rw [hb] at hn; exact (sWhile_eq hn).symm
          | ct env2 S2 => rw [hb] at hn; exact (sWhile_eq hn).symm
          | bk env2 S2 => rfl
          | rt d S2 => rfl
          | exc C fs env2 S2 => rfl
          | bad => rfl
      | exc C fs S1 => rfl
      | bad => rfl
  · have h0 : sWhile c body env S = .bad := by unfold sWhile; rw [dif_neg hx]
    rw [h0]
    have all : ∀ n, whileN c body n env S = .bad := fun n => Classical.byContradiction fun z => hx ⟨n, z⟩
    have inner : ∀ env2 S2, (∀ n, whileN c body n env2 S2 = .bad) → sWhile c body env2 S2 = .bad := fun env2 S2 h => by
      unfold sWhile
      rw [dif_neg fun ⟨n, z⟩ => z (h n)]
    have a1 := all 1
    rw [whileN] at a1
    cases hc : c env S with
    | ok b S1 =>
      rw [hc] at a1
      simp only [RS.of_ok] at a1 ⊢
      cases b with
      | false => exact absurd a1 (by intro z; cases z)
      | true =>
        simp only [if_true] at a1 ⊢
        cases hb : body env S1 with
        | nx env2 S2 =>
          refine (inner env2 S2 fun n => ?_).symm
          have := all (n + 1)
          rw [whileN, hc] at this
          simpa [hb] using this
        | ct env2 S2 =>
          refine (inner env2 S2 fun n => ?_).symm
          have := all (n + 1)
          rw [whileN, hc] at this
          simpa [hb] using this
        | bk env2 S2 => rw [hb] at a1; cases a1
        | rt d S2 => rw [hb] at a1; cases a1
        | exc C fs env2 S2 => rw [hb] at a1; cases a1
        | bad => rfl
    | exc C fs S1 => rw [hc] at a1; cases a1
    | bad => rfl
theorem s_while {c : Expr} {body : List Stmt} {mc : BM} {mb : SM} (hp : PassesOwn (model X.prog X.w) X.A X.env X.xe) (hc : DT X W c mc) (hb : DB X W body mb) : DS X W (.While c body [] pos) (sWhile mc mb) :=
  ⟨PS.imp (ps_while hp hc.p hb.p) fun T σ H ⟨ρ, S, env, hS, hE, h⟩ => by
    classical
    have hx : ∃ n, whileN mc mb n env S ≠ .bad := Classical.byContradiction fun hx => by
      unfold sWhile at h
      rw [dif_neg hx] at h
      exact h
    obtain ⟨n, hn⟩ := hx
    rw [sWhile_eq hn] at h
    refine ⟨fun m σ' H' => ∃ ρ' S' env', SOk X.K ρ' S' H' ∧ EOk X.K ρ' H' env' σ' ∧ SPost X.K W T ρ' H' (whileN mc mb m env' S'), ⟨n, ρ, S, env, hS, hE, h⟩, ?_⟩
    rintro m σ' H' ⟨ρ', S', env', hS', hE', h'⟩
    cases m with
    | zero => exact h'.elim
    | succ m =>
      unfold whileN at h'
      refine SPost.bindK hS' hE' h' fun v H1 ρ1 S1 b hS1 hE1 st1 r1 h1 => ?_
      cases r1
      cases v with
      | false => exact h1 ρ1 H1 σ' hS1 .refl hE1
      | true =>
        simp only [if_true] at h1 ⊢
        refine ⟨fun σ2 H2 => ∃ ρ2 S2 env2, SOk X.K ρ2 S2 H2 ∧ EOk X.K ρ2 H2 env2 σ2 ∧ SPost X.K W T ρ2 H2 (whileN mc mb m env2 S2), fun σ2 H2 q => ⟨m, Nat.lt_succ_self m, q⟩, ρ1, S1, env', hS1, hE1, ?_⟩
        cases hb' : mb env' S1 with
        | nx env5 S5 => rw [hb'] at h1; exact fun ρ6 H6 σ6 q1 q2 q3 => ⟨ρ6, S5, env5, q1, q3, h1.step q2⟩
        | ct env5 S5 => rw [hb'] at h1; exact fun ρ6 H6 σ6 q1 q2 q3 => ⟨ρ6, S5, env5, q1, q3, h1.step q2⟩
        | bk env5 S5 => rw [hb'] at h1; exact h1
        | rt d5 S5 => rw [hb'] at h1; exact h1
        | exc C fs env5 S5 => rw [hb'] at h1; exact h1
        | bad => rw [hb'] at h1; exact h1.elim⟩
end
end Mi

namespace Mi
open PySem PySem.Spec PyProof.Rows L2
/-! ### a list that is just being built: nobody else knows it -/
def Rho.hide (ρ : Rho) (p : Addr) : Rho := ⟨ρ.m, fun a => ρ.pv a ∨ a = p⟩
section
variable {K : PySem.W.Frag} {ρ ρ' : Rho} {S S' : Sto} {H H' : Hp} {p : Addr} {env : En} {σ : L2.St}
theorem Rho.no_hide {q : Addr} (h : (ρ.hide p).no q) : ρ.no q ∧ q ≠ p := ⟨⟨h.1, fun z => h.2 (.inl z)⟩, fun z => h.2 (.inr z)⟩
mutual
/-- another record of what may change -/
theorem Rp.re (hm : ∀ n a, ρ.m n = some a → ρ'.m n = some a) (hn : ∀ q vs, H q = some (.lst vs) → ρ.no q → ρ'.no q) : ∀ (d : D) (v : V), Rp K ρ H d v → Rp K ρ' H d v
  | .non, v, h => h
  | .bl b, v, h => h
  | .int i, v, h => h
  | .str x, v, h => h
  | .tup l, v, h => by
    obtain ⟨p, vs, e, h1, h2⟩ := h
    exact ⟨p, vs, e, h1, Rps.re hm hn l vs h2⟩
  | .lst l, v, h => by
    obtain ⟨p, vs, e, h1, h2, h3⟩ := h
    exact ⟨p, vs, e, h1, hn p vs h1 h2, Rps.re hm hn l vs h3⟩
  | .wls l, v, h => by
    obtain ⟨p, vs, e, h1, h2⟩ := h
    exact ⟨p, vs, e, h1, Rps.re hm hn l vs h2⟩
  | .loc n, v, h => by
    obtain ⟨a, e, h1⟩ := h
    exact ⟨a, e, hm n a h1⟩
  | .gl a, v, h => h
  | .ty n, v, h => h
theorem Rps.re (hm : ∀ n a, ρ.m n = some a → ρ'.m n = some a) (hn : ∀ q vs, H q = some (.lst vs) → ρ.no q → ρ'.no q) : ∀ (ds : List D) (vs : List V), Rps K ρ H ds vs → Rps K ρ' H ds vs
  | [], vs, h => h
  | d :: ds, vs, h => by
    obtain ⟨v, r, e, h1, h2⟩ := h
    exact ⟨v, r, e, Rp.re hm hn d v h1, Rps.re hm hn ds r h2⟩
end
theorem KVs.re {κ : Type} (hm : ∀ n a, ρ.m n = some a → ρ'.m n = some a) (hn : ∀ q vs, H q = some (.lst vs) → ρ.no q → ρ'.no q) : ∀ (l : List (κ × D)) (vs : List (κ × V)), KVs K ρ H l vs → KVs K ρ' H l vs
  | [], _, h => h
  | d :: ds, _, h => by obtain ⟨v, r, e, h1, h2⟩ := h; exact ⟨v, r, e, Rp.re hm hn _ _ h1, KVs.re hm hn ds r h2⟩
theorem OOk.re (hm : ∀ n a, ρ.m n = some a → ρ'.m n = some a) (hn : ∀ q vs, H q = some (.lst vs) → ρ.no q → ρ'.no q) {a : Addr} {o : O} (h : OOk K ρ H a o) : OOk K ρ' H a o := by
  cases o with
  | lst l => obtain ⟨vs, h1, h2⟩ := h; exact ⟨vs, h1, Rps.re hm hn l vs h2⟩
  | dct l => obtain ⟨vs, h1, h2⟩ := h; exact ⟨vs, h1, KVs.re hm hn l vs h2⟩
  | dcT l => obtain ⟨vs, h1, h2⟩ := h; exact ⟨vs, h1, KVs.re hm hn l vs h2⟩
  | ins C l => obtain ⟨dx, vs, h1, h2⟩ := h; exact ⟨dx, vs, h1, KVs.re hm hn l vs h2⟩
theorem EOk.re (hm : ∀ n a, ρ.m n = some a → ρ'.m n = some a) (hn : ∀ q vs, H q = some (.lst vs) → ρ.no q → ρ'.no q) (h : EOk K ρ H env σ) : EOk K ρ' H env σ :=
  ⟨h.len, fun i d e => by obtain ⟨v, h1, h2⟩ := h.val i d e; exact ⟨v, h1, Rp.re hm hn d v h2⟩⟩
theorem unh (q : Addr) (vs : List V) (_ : H q = some (.lst vs)) (h : (ρ.hide p).no q) : ρ.no q := (Rho.no_hide h).1
theorem SOk.unhide (h : SOk K (ρ.hide p) S H) : SOk K ρ S H :=
  ⟨h.inj, h.dom, fun n o e => by
    obtain ⟨a, ha, ok⟩ := h.obj n o e
    exact ⟨a, ha, OOk.re (ρ := ρ.hide p) (ρ' := ρ) (fun _ _ z => z) unh ok⟩, fun a z => h.prv a (.inl z)⟩
mutual
/-- the list at p, that nobody knows, is written -/
theorem Rp.pupd {o : HO} (hp : ∀ u, H p = some u → Mk u) (pv : ρ.pv p) : ∀ (d : D) (v : V), Rp K ρ H d v → Rp K ρ (upd H p o) d v
  | .non, v, h => h
  | .bl b, v, h => h
  | .int i, v, h => h
  | .str x, v, h => h
  | .tup l, v, h => by
    obtain ⟨q, vs, e, h1, h2⟩ := h
    refine ⟨q, vs, e, ?_, Rps.pupd hp pv l vs h2⟩
    rcases h1 with h1 | h1
    · exact .inl (by rw [upd_ne (fun z => by subst z; exact hp _ h1)]; exact h1)
    · exact .inr h1
  | .lst l, v, h => by
    obtain ⟨q, vs, e, h1, h2, h3⟩ := h
    exact ⟨q, vs, e, by rw [upd_ne (fun z => h2.2 (by rw [z]; exact pv))]; exact h1, h2, Rps.pupd hp pv l vs h3⟩
  | .wls l, v, h => by
    obtain ⟨q, vs, e, h1, h2⟩ := h
    refine ⟨q, vs, e, ?_, Rps.pupd hp pv l vs h2⟩
    rcases h1 with ⟨o', h1⟩ | h1
    · exact .inl ⟨o', by rw [upd_ne (fun z => by subst z; exact hp _ h1)]; exact h1⟩
    · exact .inr h1
  | .loc n, v, h => h
  | .gl a, v, h => h
  | .ty n, v, h => h
theorem Rps.pupd {o : HO} (hp : ∀ u, H p = some u → Mk u) (pv : ρ.pv p) : ∀ (ds : List D) (vs : List V), Rps K ρ H ds vs → Rps K ρ (upd H p o) ds vs
  | [], vs, h => h
  | d :: ds, vs, h => by
    obtain ⟨v, r, e, h1, h2⟩ := h
    exact ⟨v, r, e, Rp.pupd hp pv d v h1, Rps.pupd hp pv ds r h2⟩
end
theorem KVs.pupd {κ : Type} {o : HO} (hp : ∀ u, H p = some u → Mk u) (pv : ρ.pv p) : ∀ (l : List (κ × D)) (vs : List (κ × V)), KVs K ρ H l vs → KVs K ρ (upd H p o) l vs
  | [], _, h => h
  | d :: ds, _, h => by obtain ⟨v, r, e, h1, h2⟩ := h; exact ⟨v, r, e, Rp.pupd hp pv _ _ h1, KVs.pupd hp pv ds r h2⟩
theorem EOk.pupd {o : HO} (hp : ∀ u, H p = some u → Mk u) (pv : ρ.pv p) (h : EOk K ρ H env σ) : EOk K ρ (upd H p o) env σ :=
  ⟨h.len, fun i d e => by obtain ⟨v, h1, h2⟩ := h.val i d e; exact ⟨v, h1, Rp.pupd hp pv d v h2⟩⟩
theorem SOk.pupd {ys : List V} (hS : SOk K ρ S H) (pv : ρ.pv p) : SOk K ρ S (upd H p (.lst ys)) := by
  obtain ⟨⟨u, h1, h2⟩, h3⟩ := hS.prv p pv
  have hp : ∀ u, H p = some u → Mk u := fun u' h => by rw [h1] at h; cases h; exact h2
  refine ⟨hS.inj, hS.dom, fun n o e => ?_, fun a z => ?_⟩
  · obtain ⟨a, ha, ok⟩ := hS.obj n o e
    have hne : a ≠ p := fun z => h3 n (by rw [← z]; exact ha)
    refine ⟨a, ha, ?_⟩
    cases o with
    | lst l => obtain ⟨vs, h1, h2⟩ := ok; exact ⟨vs, by rw [upd_ne hne]; exact h1, Rps.pupd hp pv l vs h2⟩
    | dct l => obtain ⟨vs, h1, h2⟩ := ok; exact ⟨vs, by rw [upd_ne hne]; exact h1, KVs.pupd hp pv l vs h2⟩
    | dcT l => obtain ⟨vs, h1, h2⟩ := ok; exact ⟨vs, by rw [upd_ne hne]; exact h1, KVs.pupd hp pv l vs h2⟩
    | ins C l => obtain ⟨dx, vs, h1, h2⟩ := ok; exact ⟨dx, vs, by rw [upd_ne hne]; exact h1, KVs.pupd hp pv l vs h2⟩
  · by_cases hap : a = p
    · subst hap; exact ⟨⟨_, upd_same, trivial⟩, h3⟩
    · obtain ⟨⟨u', h4, h5⟩, h6⟩ := hS.prv a z
      exact ⟨⟨u', by rw [upd_ne hap]; exact h4, h5⟩, h6⟩
/-- a new list, hidden -/
theorem hide_no (hp : H p = none) (q : Addr) (vs : List V) (h : H q = some (.lst vs)) (hn : ρ.no q) : (ρ.hide p).no q :=
  ⟨hn.1, fun z => z.elim hn.2 fun z => by subst z; rw [hp] at h; cases h⟩
theorem hide_mk (hp : H p = none) (u : HO) (h : H p = some u) : Mk u := by rw [hp] at h; cases h
theorem SOk.hideN (hS : SOk K ρ S H) (hp : H p = none) : SOk K (ρ.hide p) S (upd H p (.lst [])) := by
  have a := hS.alloc (o := .lst []) hp
  have b : ∀ n, ρ.m n ≠ some p := (hS.noN hp).1
  refine ⟨hS.inj, hS.dom, fun n o e => ?_, fun a z => ?_⟩
  · obtain ⟨a, ha, ok⟩ := hS.obj n o e
    have hne : a ≠ p := fun z => b n (by rw [← z]; exact ha)
    have ok1 : OOk K (ρ.hide p) H a o := OOk.re (ρ := ρ) (ρ' := ρ.hide p) (fun _ _ z => z) (hide_no hp) ok
    have pv : (ρ.hide p).pv p := .inr rfl
    refine ⟨a, ha, ?_⟩
    cases o with
    | lst l => obtain ⟨vs, h1, h2⟩ := ok1; exact ⟨vs, by rw [upd_ne hne]; exact h1, Rps.pupd (hide_mk hp) pv l vs h2⟩
    | dct l => obtain ⟨vs, h1, h2⟩ := ok1; exact ⟨vs, by rw [upd_ne hne]; exact h1, KVs.pupd (hide_mk hp) pv l vs h2⟩
    | dcT l => obtain ⟨vs, h1, h2⟩ := ok1; exact ⟨vs, by rw [upd_ne hne]; exact h1, KVs.pupd (hide_mk hp) pv l vs h2⟩
    | ins C l => obtain ⟨dx, vs, h1, h2⟩ := ok1; exact ⟨dx, vs, by rw [upd_ne hne]; exact h1, KVs.pupd (hide_mk hp) pv l vs h2⟩
  · rcases z with z | z
    · obtain ⟨⟨u', h4, h5⟩, h6⟩ := hS.prv a z
      exact ⟨⟨u', by rw [upd_ne (ne_of_none h4 hp)]; exact h4, h5⟩, h6⟩
    · subst z; exact ⟨⟨_, upd_same, trivial⟩, b⟩
theorem EOk.hideN (hE : EOk K ρ H env σ) (hp : H p = none) : EOk K (ρ.hide p) (upd H p (.lst [])) env σ :=
  (EOk.re (ρ := ρ) (ρ' := ρ.hide p) (fun _ _ z => z) (hide_no hp) hE).pupd (hide_mk hp) (.inr rfl)
/-- steps with the list hidden -/
theorem Stp.unhide {ρ4 : Rho} (st : Stp (ρ.hide p) ρ4 H H') (hv : ¬ ρ.pv p) : ∃ ρ5 : Rho, ρ4 = ρ5.hide p ∧ ¬ ρ5.pv p ∧ Stp ρ ρ5 H H' := by
  refine ⟨⟨ρ4.m, fun a => ρ4.pv a ∧ a ≠ p⟩, ?_, fun z => z.2 rfl, ⟨st.up, st.new, fun a z => ?_, fun a z => ⟨st.pvu a (.inl z), fun e => by subst e; exact hv z⟩, st.keep, st.live⟩⟩
  · have hp := st.pvu p (.inr rfl)
    obtain ⟨m4, pv4⟩ := ρ4
    unfold Rho.hide
    congr 1
    funext a
    apply propext
    refine ⟨fun z => ?_, fun z => z.elim (·.1) fun e => by subst e; exact hp⟩
    by_cases e : a = p
    · exact .inr e
    · exact .inl ⟨z, e⟩
  · rcases st.pv a z.1 with (q | q) | q
    · exact .inl q
    · exact absurd q z.2
    · exact .inr q
/-- .. and with it from ahead of it -/
theorem Stp.hide {ρ0 : Rho} {H0 : Hp} (st : Stp ρ0 ρ H0 H) (hp : H0 p = none) : Stp ρ0 (ρ.hide p) H0 H :=
  ⟨st.up, st.new, fun a z => z.elim (st.pv a) fun e => by subst e; exact .inr hp, fun a z => .inl (st.pvu a z), st.keep, st.live⟩
theorem Stp.putP {ρ0 : Rho} {H0 : Hp} {ys : List V} (st : Stp ρ0 ρ H0 H) (hp : H0 p = none) : Stp ρ0 ρ H0 (upd H p (.lst ys)) where
  up := st.up
  new := st.new
  pv := st.pv
  pvu := st.pvu
  keep a o h hn := by rw [upd_ne (ne_of_none h hp)]; exact st.keep a o h hn
  live a h := st.live a (upd_live h)
/-- the list built is told to the world, as one that stays -/
theorem hidden_lst {l : List D} {vs : List V} (hS : SOk K (ρ.hide p) S H) (e : H p = some (.lst vs)) (r : Rps K (ρ.hide p) H l vs) (hv : ¬ ρ.pv p) : SOk K ρ S H ∧ Rp K ρ H (.lst l) (.ref p) :=
  ⟨hS.unhide, p, vs, rfl, e, ⟨(hS.prv p (.inr rfl)).2, hv⟩, Rps.re (ρ := ρ.hide p) (ρ' := ρ) (fun _ _ z => z) unh l vs r⟩
/-- .. as one that may change -/
theorem hidden_loc {l : List D} {vs : List V} (hS : SOk K (ρ.hide p) S H) (e : H p = some (.lst vs)) (r : Rps K (ρ.hide p) H l vs) (hv : ¬ ρ.pv p) : SOk K (ρ.put S.length p) (S ++ [.lst l]) H ∧ Rp K (ρ.put S.length p) H (.loc S.length) (.ref p) := by
  have hm : ∀ n a, (ρ.hide p).m n = some a → (ρ.put S.length p).m n = some a := fun n a h => by
    unfold Rho.put
    simp only
    rw [if_neg (Nat.ne_of_lt (hS.dom n a h))]
    exact h
  have hn : ∀ q vs, H q = some (.lst vs) → (ρ.hide p).no q → (ρ.put S.length p).no q := fun q vs _ h => by
    obtain ⟨h1, h2⟩ := Rho.no_hide h
    refine ⟨fun n z => ?_, h1.2⟩
    unfold Rho.put at z
    simp only at z
    split at z
    · cases z; exact h2 rfl
    · exact h1.1 n z
  have at_ : (ρ.put S.length p).m S.length = some p := by unfold Rho.put; simp
  have np := (hS.prv p (.inr rfl)).2
  refine ⟨⟨fun n m a h1 h2 => ?_, fun n a h => ?_, fun n o' e' => ?_, fun a h => ?_⟩, p, rfl, at_⟩
  · unfold Rho.put at h1 h2
    simp only at h1 h2
    split at h1 <;> split at h2
    · omega
    · cases h1; exact absurd h2 (np m)
    · cases h2; exact absurd h1 (np n)
    · exact hS.inj n m a h1 h2
  · unfold Rho.put at h
    simp only at h
    rw [List.length_append]
    split at h
    · simp; omega
    · have := hS.dom n a h; simp; omega
  · by_cases hlt : n < S.length
    · rw [List.getElem?_append_left hlt] at e'
      obtain ⟨a, ha, ok'⟩ := hS.obj n o' e'
      exact ⟨a, hm n a ha, ok'.re hm hn⟩
    · have hn' : n = S.length := by
        have := (List.getElem?_eq_some_iff.mp e').1
        simp at this; omega
      subst hn'
      simp at e'
      subst e'
      exact ⟨p, at_, vs, e, Rps.re hm hn l vs r⟩
  · obtain ⟨h1, h2⟩ := hS.prv a (.inl h)
    refine ⟨h1, fun n z => ?_⟩
    unfold Rho.put at z
    simp only at z
    split at z
    · cases z; exact hv h
    · exact h2 n z
end
/-! ### comprehensions -/
def wipeE (env : En) : List Nat → En
  | [] => env
  | v :: vs => (wipeE env vs).set v none
theorem EOk.wipe {K : PySem.W.Frag} {ρ : Rho} {H : Hp} {env : En} {σ : L2.St} (h : EOk K ρ H env σ) : ∀ vs : List Nat, EOk K ρ H (wipeE env vs) (L2.wipe σ vs)
  | [] => h
  | v :: vs => (EOk.wipe h vs).drop1
theorem wipe_get (σ : L2.St) (i : Nat) : ∀ vs : List Nat, i ∈ vs → i < σ.length → (L2.wipe σ vs)[i]? = some none
  | v :: vs, hm, hl => by
    unfold L2.wipe
    by_cases e : v = i
    · subst e
      rw [List.getElem?_set_self (by rw [wipe_length]; exact hl)]
    · rw [List.getElem?_set_ne e]
      exact wipe_get σ i vs (by rcases List.mem_cons.mp hm with z | z; exact absurd z.symm e; exact z) hl
theorem wipe_chg {σ σ' : L2.St} {is vs : List Nat} (c : Chg is (L2.wipe σ vs) σ') (hs : ∀ i ∈ is, i ∈ vs) : L2.wipe σ' vs = L2.wipe σ vs := by
  have hl : σ'.length = σ.length := by rw [c.1, wipe_length]
  apply List.ext_getElem?
  intro i
  by_cases hi : i < σ.length
  · by_cases hm : i ∈ vs
    · rw [wipe_get σ i vs hm hi, wipe_get σ' i vs hm (by omega)]
    · rw [wipe_out hm, c.2 i fun z => hm (hs i z)]
  · rw [List.getElem?_eq_none (by rw [wipe_length]; omega), List.getElem?_eq_none (by rw [wipe_length]; omega)]
open Classical in
noncomputable def lcD (g : GM) (tt : BM) (te : TM) (gd : Sto → Prop) (env : En) : List D → Sto → List D → R (List D)
  | [], S, acc => if gd S then .ok acc S else .bad
  | d :: ds, S, acc => if gd S then match g d env S with
    | .ok env1 S1 => match tt env1 S1 with
      | .ok b S2 => if b = true then match te env1 S2 with
          | .ok y S3 => if acc.length < 16777216 then lcD g tt te gd env ds S3 (acc ++ [y]) else .bad
          | _ => .bad
        else lcD g tt te gd env ds S2 acc
      | _ => .bad
    | _ => .bad
    else .bad
noncomputable def mLc (i : IM) (g : GM) (tt : BM) (te : TM) (vs : List Nat) : TM := fun env S => (i env S).bind fun p S1 => (lcD g tt te p.2 (wipeE env vs) p.1 S1 []).bind fun l S2 => .ok (.lst l) S2
noncomputable def mLcN (i : IM) (g : GM) (tt : BM) (te : TM) (vs : List Nat) : TM := fun env S => (i env S).bind fun p S1 => (lcD g tt te p.2 (wipeE env vs) p.1 S1 []).bind fun l S2 => R.new (.lst l) S2
def bYes : BM := fun _ S => .ok true S
structure DTs (X : Cx) (es : List Expr) (m : BM) : Prop where
  p : PTs X es (tT X.K W0 m)
theorem PTs.imp {X : Cx} {e : List Expr} {t t' : TT} (h : PTs X e t) (i : ∀ σ H Q, t' σ H Q → t σ H Q) : PTs X e t' := ⟨fun pins s σ H Q I q => h.run pins s σ H Q I (i σ H Q q)⟩
theorem ts_nil {X : Cx} : DTs X [] bYes := ⟨PTs.imp pts_nil fun σ H Q ⟨ρ, S, env, hS, hE, h⟩ => h ρ H true hS .refl rfl⟩
theorem ts_one {X : Cx} {c : Expr} {m : BM} (h : DT X W0 c m) : DTs X [c] m := ⟨pts_one h.p⟩
section
variable {K : PySem.W.Frag} {W : WX}
theorem of_lc {i : IM} {g : GM} {tt : BM} {te : TM} {vs is : List Nat} {σ : L2.St} {H : Hp} {Q : VK} {fin : List D → Sto → R D} (his : ∀ i ∈ is, i ∈ vs)
    (hfin : ∀ {ρ : Rho} {S : Sto} {H : Hp} {p : Addr} {l : List D} {us : List V} {ρ0 : Rho} {H0 : Hp}, SOk K (ρ.hide p) S H → H p = some (.lst us) → Rps K (ρ.hide p) H l us → ¬ ρ.pv p → H0 p = none → Stp ρ0 ρ H0 H → Post K W (Rp K) ρ0 H0 σ (fin l S) Q → Q (.ref p) H)
    (h : tE K W (fun env S => (i env S).bind fun p S1 => (lcD g tt te p.2 (wipeE env vs) p.1 S1 []).bind fin) σ H Q) : tLc (tI K W i) (gD K is g) (tT K W0 tt) (tE K W0 te) vs σ H Q := by
  obtain ⟨ρ, S, env, hS, hE, h⟩ := h
  refine ⟨ρ, S, env, hS, hE, ?_⟩
  cases hi' : i env S with
  | exc C fs S1 =>
    simp only [hi', R.bind_exc] at h
    exact h
  | bad => simp only [hi', R.bind_bad] at h; exact h.elim
  | ok p S1 =>
    obtain ⟨l, gd⟩ := p
    simp only [hi', R.bind_ok] at h
    intro ρ1 H1 J hS1 st1 it D hD
    have hv1 : ¬ ρ1.pv D := (hS1.noN hD).2
    refine ⟨fun k m H' => m = l.length - k ∧ k ≤ l.length ∧ ∃ ρ' S' acc us, SOk K (ρ'.hide D) S' H' ∧ ¬ ρ'.pv D ∧ Stp ρ1 ρ' H1 H' ∧ H' D = some (.lst us) ∧ Rps K (ρ'.hide D) H' acc us ∧ EOk K (ρ'.hide D) H' (wipeE env vs) (L2.wipe σ vs) ∧
        Post K W (Rp K) ρ1 H1 σ ((lcD g tt te gd (wipeE env vs) (l.drop k) S' acc).bind fin) Q,
      ⟨l.length, by simp, Nat.zero_le _, ρ1, S1, [], [], hS1.hideN hD, hv1, .alloc hD, upd_same, rfl, ((hE.step hS st1).hideN hD).wipe vs, by simpa using h.step st1⟩, ?_⟩
    rintro k m H' ⟨rfl, hk, ρ', S', acc, us, hS', hv', st', eD, racc, hE', h'⟩
    by_cases hlt : k < l.length
    · right
      rw [List.drop_eq_getElem_cons hlt] at h'
      unfold lcD at h'
      split at h'
      case isFalse => exact h'.elim
      rename_i hgd
      refine ⟨it.goes k ρ' S' H' hlt hS'.unhide st' hgd, fun H2 => ∃ ρ2 S2 acc2 us2, SOk K (ρ2.hide D) S2 H2 ∧ ¬ ρ2.pv D ∧ Stp ρ1 ρ2 H1 H2 ∧ H2 D = some (.lst us2) ∧ Rps K (ρ2.hide D) H2 acc2 us2 ∧ EOk K (ρ2.hide D) H2 (wipeE env vs) (L2.wipe σ vs) ∧
        Post K W (Rp K) ρ1 H1 σ ((lcD g tt te gd (wipeE env vs) (l.drop (k + 1)) S2 acc2).bind fin) Q, fun H2 q => ⟨l.length - (k + 1), by omega, rfl, hlt, q⟩, fun x H2 y => ?_⟩
      have gdH := it.yields k (ρ'.hide D) S' H' x H2 hlt hS' (st'.hide hD) hgd y
      obtain ⟨d, hd, hS2, st2, r2⟩ := gdH
      have hd' : d = l[k] := by simp [hlt] at hd; exact hd.symm
      subst hd'
      cases hg' : g l[k] (wipeE env vs) S' with
      | exc C fs S3 => rw [hg'] at h'; exact h'.elim
      | bad => rw [hg'] at h'; exact h'.elim
      | ok env3 S3 =>
        rw [hg'] at h'
        refine ⟨ρ'.hide D, S', wipeE env vs, l[k], hS2, hE'.step hS' st2, r2, env3, S3, hg', fun ρ4 H4 σ4 hS4 st4 hE4 chg => ⟨wipe_chg chg his, ?_⟩⟩
        refine ⟨ρ4, S3, env3, hS4, hE4, ?_⟩
        simp only at h'
        cases ht' : tt env3 S3 with
        | exc C fs S4 => rw [ht'] at h'; exact h'.elim
        | bad => rw [ht'] at h'; exact h'.elim
        | ok b S5 =>
          rw [ht'] at h'
          intro ρ6 H6 b' hS6 st6 eb
          cases eb
          simp only at h'
          have stB : Stp (ρ'.hide D) ρ6 H' H6 := (st2.trans st4).trans st6
          have hE6 : EOk K ρ6 H6 (wipeE env vs) (L2.wipe σ vs) := hE'.step hS' stB
          have racc6 := Rps.step hS' stB acc us racc
          have eD6 : H6 D = some (.lst us) := stB.keep D _ eD (hS'.prv D (.inr rfl)).2
          cases b with
          | false =>
            simp only [Bool.false_eq_true, if_false] at h' ⊢
            obtain ⟨ρ7, rfl, hv7, st7⟩ := stB.unhide hv'
            exact ⟨ρ7, S5, acc, us, hS6, hv7, st'.trans st7, eD6, racc6, hE6, h'⟩
          | true =>
            simp only [if_true] at h' ⊢
            refine ⟨ρ6, S5, env3, hS6, hE4.step hS4 st6, ?_⟩
            cases he' : te env3 S5 with
            | exc C fs S8 => rw [he'] at h'; exact h'.elim
            | bad => rw [he'] at h'; exact h'.elim
            | ok z S8 =>
              rw [he'] at h'
              simp only at h'
              split at h'
              case isFalse => exact h'.elim
              rename_i hlen
              intro ρ9 H9 yv hS9 st9 ry
              have stC : Stp (ρ'.hide D) ρ9 H' H9 := stB.trans st9
              have eD9 : H9 D = some (.lst us) := stC.keep D _ eD (hS'.prv D (.inr rfl)).2
              have racc9 := Rps.step hS' stC acc us racc
              obtain ⟨ρ7, rfl, hv7, st7⟩ := stC.unhide hv'
              have mkD : ∀ u, H9 D = some u → Mk u := fun u hu => by rw [eD9] at hu; cases hu; trivial
              have pvD : (ρ7.hide D).pv D := .inr rfl
              refine ⟨us, eD9, by rw [sizeLine16, ← racc9.length]; exact hlen, ρ7, S8, acc ++ [z], us ++ [yv], hS9.pupd pvD, hv7, (st'.trans st7).putP hD, upd_same, ?_, (hE'.step hS' stC).pupd mkD pvD, h'⟩
              exact Rps.pupd mkD pvD _ _ (racc9.append (es := [z]) (ws := [yv]) ⟨yv, [], rfl, ry, rfl⟩)
    · left
      have ek : k = l.length := by omega
      subst ek
      rw [List.drop_length] at h'
      unfold lcD at h'
      split at h'
      case isFalse => exact h'.elim
      rename_i hgd
      exact ⟨it.stops ρ' S' H' hS'.unhide st' hgd, hfin hS' eD racc hv' hD st' h'⟩
end
section
variable {X : Cx} {W : WX} {elt tg iter : Expr} {ifs : List Expr} {scope : Scope} {own : List (Str × Nat)} {pos spos py : Pos} {i : IM} {g : GM} {tt : BM} {te : TM} {is : List Nat}
theorem d_lc (hc : X.calm = true) (hN : X.N.Nodup) (hi : DI X W tg iter i) (ok : BlkOk X.N X.env.scope scope own) (his : ∀ i ∈ is, i ∈ own.map (·.2))
    (hg : ∀ (s : Shared) (H : Hp) (C : Addr) (cl : List (Str × Addr)) (fp : List Addr), DG (X.blk s H scope (compEnvC scope cl C X.env) fp) is tg g) (ht : ∀ (s : Shared) (H : Hp) (C : Addr) (cl : List (Str × Addr)) (fp : List Addr), DTs (X.blk s H scope (compEnvC scope cl C X.env) fp) ifs tt)
    (he : ∀ (s : Shared) (H : Hp) (C : Addr) (cl : List (Str × Addr)) (fp : List Addr), DE (X.blk s H scope (compEnvC scope cl C X.env) fp) W0 elt te) (hs : ∀ x, foldedSetIterable iter X.env x = pure x := by intro _; rfl) :
    DE X W (.ListComp elt [⟨tg, iter, ifs, 0⟩] scope pos) (mLc i g tt te (own.map (·.2))) :=
  ⟨PE.imp (pe_lc hc hN hi.p ok (fun s H C cl fp => (hg s H C cl fp).p) (fun s H C cl fp => (ht s H C cl fp).p) (fun s H C cl fp => (he s H C cl fp).p) hs) fun σ H Q h =>
    of_lc his (fun hS e r hv _ st hf => by obtain ⟨h1, h2⟩ := hidden_lst hS e r hv; exact hf _ _ _ h1 st h2) h⟩
theorem hid_st {ρ ρ0 : Rho} {H H0 : Hp} {p : Addr} {n : Nat} (st : Stp ρ0 ρ H0 H) (hp : H0 p = none) (hd : ∀ m a, ρ0.m m = some a → m ≠ n) : Stp ρ0 (ρ.put n p) H0 H :=
  ⟨fun m a h => by unfold Rho.put; simp only; rw [if_neg (hd m a h)]; exact st.up m a h, fun m a h => by
    unfold Rho.put at h
    simp only at h
    split at h
    · cases h; exact .inr hp
    · exact st.new m a h, st.pv, st.pvu, st.keep, st.live⟩
theorem d_lcN (hc : X.calm = true) (hN : X.N.Nodup) (hi : DI X W tg iter i) (ok : BlkOk X.N X.env.scope scope own) (his : ∀ i ∈ is, i ∈ own.map (·.2))
    (hg : ∀ (s : Shared) (H : Hp) (C : Addr) (cl : List (Str × Addr)) (fp : List Addr), DG (X.blk s H scope (compEnvC scope cl C X.env) fp) is tg g) (ht : ∀ (s : Shared) (H : Hp) (C : Addr) (cl : List (Str × Addr)) (fp : List Addr), DTs (X.blk s H scope (compEnvC scope cl C X.env) fp) ifs tt)
    (he : ∀ (s : Shared) (H : Hp) (C : Addr) (cl : List (Str × Addr)) (fp : List Addr), DE (X.blk s H scope (compEnvC scope cl C X.env) fp) W0 elt te) (hs : ∀ x, foldedSetIterable iter X.env x = pure x := by intro _; rfl) :
    DE X W (.ListComp elt [⟨tg, iter, ifs, 0⟩] scope pos) (mLcN i g tt te (own.map (·.2))) :=
  ⟨PE.imp (pe_lc hc hN hi.p ok (fun s H C cl fp => (hg s H C cl fp).p) (fun s H C cl fp => (ht s H C cl fp).p) (fun s H C cl fp => (he s H C cl fp).p) hs) fun σ H Q h =>
    of_lc his (fun {ρ S H p l us ρ0 H0} hS e r hv hp st hf => by
      obtain ⟨h1, h2⟩ := hidden_loc hS e r hv
      exact hf _ _ _ h1 (hid_st st hp fun m a h => Nat.ne_of_lt (hS.dom m a (st.up m a h))) h2) h⟩
/-- name = [..] on one line, the name a local -/
theorem s_setLc {j : Nat} {y : Str} (hc : X.calm = true) (hN : X.N.Nodup) (hy : X.N[j]? = some y) (hyl : X.env.scope.names.lookup y = some .local)
    (hsw : swapsWith (.ListComp elt [⟨tg, iter, ifs, 0⟩] scope pos) (some (.Name y py)) spos.line X.env = pure true) (hi : DI X W tg iter i) (ok : BlkOk X.N X.env.scope scope own) (his : ∀ i ∈ is, i ∈ own.map (·.2))
    (hg : ∀ (s : Shared) (H : Hp) (C : Addr) (cl : List (Str × Addr)) (fp : List Addr), DG (X.blk s H scope (compEnvC scope cl C X.env) fp) is tg g) (ht : ∀ (s : Shared) (H : Hp) (C : Addr) (cl : List (Str × Addr)) (fp : List Addr), DTs (X.blk s H scope (compEnvC scope cl C X.env) fp) ifs tt)
    (he : ∀ (s : Shared) (H : Hp) (C : Addr) (cl : List (Str × Addr)) (fp : List Addr), DE (X.blk s H scope (compEnvC scope cl C X.env) fp) W0 elt te) (hs : ∀ x, foldedSetIterable iter X.env x = pure x := by intro _; rfl) :
    DS X W (.Assign [.Name y py] (.ListComp elt [⟨tg, iter, ifs, 0⟩] scope pos) spos) (sAsg (mLc i g tt te (own.map (·.2))) (gN j)) :=
  ⟨PS.imp (ps_setLc hc hN hy hyl hsw hi.p ok (fun s H C cl fp => (hg s H C cl fp).p) (fun s H C cl fp => (ht s H C cl fp).p) (fun s H C cl fp => (he s H C cl fp).p) hs) fun T σ H ⟨ρ, S, env, hS, hE, h⟩ =>
    of_lc (W := W) his (fun hS e r hv _ st hf => by obtain ⟨h1, h2⟩ := hidden_lst hS e r hv; exact hf _ _ _ h1 st h2)
      (SPost.bindK (rel := Rp X.K) hS hE h fun v H1 ρ1 S1 a h1 h2 h3 h4 h5 => h5 ρ1 H1 _ h1 .refl (h2.set h4))⟩
theorem s_setLcN {j : Nat} {y : Str} (hc : X.calm = true) (hN : X.N.Nodup) (hy : X.N[j]? = some y) (hyl : X.env.scope.names.lookup y = some .local)
    (hsw : swapsWith (.ListComp elt [⟨tg, iter, ifs, 0⟩] scope pos) (some (.Name y py)) spos.line X.env = pure true) (hi : DI X W tg iter i) (ok : BlkOk X.N X.env.scope scope own) (his : ∀ i ∈ is, i ∈ own.map (·.2))
    (hg : ∀ (s : Shared) (H : Hp) (C : Addr) (cl : List (Str × Addr)) (fp : List Addr), DG (X.blk s H scope (compEnvC scope cl C X.env) fp) is tg g) (ht : ∀ (s : Shared) (H : Hp) (C : Addr) (cl : List (Str × Addr)) (fp : List Addr), DTs (X.blk s H scope (compEnvC scope cl C X.env) fp) ifs tt)
    (he : ∀ (s : Shared) (H : Hp) (C : Addr) (cl : List (Str × Addr)) (fp : List Addr), DE (X.blk s H scope (compEnvC scope cl C X.env) fp) W0 elt te) (hs : ∀ x, foldedSetIterable iter X.env x = pure x := by intro _; rfl) :
    DS X W (.Assign [.Name y py] (.ListComp elt [⟨tg, iter, ifs, 0⟩] scope pos) spos) (sAsg (mLcN i g tt te (own.map (·.2))) (gN j)) :=
  ⟨PS.imp (ps_setLc hc hN hy hyl hsw hi.p ok (fun s H C cl fp => (hg s H C cl fp).p) (fun s H C cl fp => (ht s H C cl fp).p) (fun s H C cl fp => (he s H C cl fp).p) hs) fun T σ H ⟨ρ, S, env, hS, hE, h⟩ =>
    of_lc (W := W) his (fun {ρ S H p l us ρ0 H0} hS e r hv hp st hf => by
      obtain ⟨h1, h2⟩ := hidden_loc hS e r hv
      exact hf _ _ _ h1 (hid_st st hp fun m a h => Nat.ne_of_lt (hS.dom m a (st.up m a h))) h2)
      (SPost.bindK (rel := Rp X.K) hS hE h fun v H1 ρ1 S1 a h1 h2 h3 h4 h5 => h5 ρ1 H1 _ h1 .refl (h2.set h4))⟩
end
end Mi

namespace Mi
open PySem PySem.Spec PyProof.Rows L2
/-! ### defs -/
abbrev FM := List D → Sto → R D
def spD (K : PySem.W.Frag) (np : Nat) (m : FM) : Sp := fun vs H Q E => ∃ ρ S ds, ds.length = np ∧ SOk K ρ S H ∧ Rps K ρ H ds vs ∧ Post K (fun c d _ H => E c d H) (Rp K) ρ H [] (m ds S) Q
structure Got (K : PySem.W.Frag) (mg : Str → Option Value) (x : Str) (st : Stmt) (f : Addr) (fd : FuncData) : Prop where
  fn : FunD K x x (defArgs st) (defBody st) (defScope st) [] [] f fd
  gl : mg x = some (.ref f)
structure FD (P : Program) (w : World) (K : PySem.W.Frag) (mg : Str → Option Value) (base : Heap) (x : Str) (st : Stmt) (ps : List Str) (k : Nat) (m : FM) : Prop where
  ex : ∃ f fd, Got K mg x st f fd ∧ FnOk P w K mg base (L2.CX P w) k f fd ps (spD K ps.length m)
def startE (n : Nat) (ds : List D) : En := ds.map some ++ List.replicate (n - ds.length) none
def fnP (n : Nat) (b : SM) : FM := fun ds S => match b (startE n ds) S with
  | .nx _ S' => .ok .non S'
  | .rt d S' => .ok d S'
  | .exc C fs _ S' => .exc C fs S'
  | _ => .bad
theorem start_ok {K : PySem.W.Frag} {ρ : Rho} {H : Hp} {N : List Str} {ds : List D} {vs : List V} (h : Rps K ρ H ds vs) : EOk K ρ H (startE N.length ds) (L2.start N vs) := by
  unfold startE L2.start
  have hl := h.length
  refine ⟨by simp [hl], fun i d e => ?_⟩
  by_cases hi : i < ds.length
  · rw [List.getElem?_append_left (by simpa using hi), List.getElem?_map] at e
    cases q : ds[i]? with
    | none => rw [q] at e; cases e
    | some d' =>
      rw [q] at e; cases e
      obtain ⟨v, h1, h2⟩ := h.get q
      exact ⟨v, by rw [List.getElem?_append_left (by simpa [← hl] using hi), List.getElem?_map, h1]; rfl, h2⟩
  · rw [List.getElem?_append_right (by simpa using hi), List.getElem?_replicate] at e
    split at e <;> cases e
section
variable {P : Program} {w : World} {K : PySem.W.Frag} {mg : Str → Option Value} {base : Heap} {x : Str} {st : Stmt} {N ps : List Str} {k : Nat}
/-- THE RULE for a def -/
theorem fd_mk {b : SM} {f : Addr} {fd : FuncData} (G : Got K mg x st f fd) (S : FnScope N ps (defScope st))
    (hb : ∀ (X : Cx) (W : WX) (cdv : Value) (A : Around) (outer : List Env) (s : Shared) (H : Hp) (E : XK), X = cxOf (L2.CX P w) P w K mg base N x (defScope st) f cdv A outer s H E → W = (fun cls d _ H => E cls d H) → Takes X W → PassesOwn (model X.prog X.w) X.A X.env X.xe → Room k X.A → DB X W (defBody st) b) :
    FD P w K mg base x st ps (k + 1) (fnP N.length b) := by
  refine ⟨f, fd, G, G.fn.ok S (fun vs H Q E h => ?_) fun cdv A outer s H vs Q E hr h => ?_⟩
  · obtain ⟨ρ, S, ds, hl, _, h2, _⟩ := h
    rw [← h2.length, hl]
  · refine ⟨_, (hb _ _ cdv A outer s H E rfl rfl (takes_of rfl rfl rfl rfl) (passes_of rfl) hr).p, ?_⟩
    obtain ⟨ρ, S, ds, hl, hS, h2, h3⟩ := h
    refine ⟨ρ, S, startE N.length ds, hS, start_ok h2, ?_⟩
    unfold fnP at h3
    revert h3
    generalize b (startE N.length ds) S = r
    intro h3
    cases r with
    | nx env S' => exact fun ρ' H' σ' q1 q2 q3 => h3 ρ' H' .non q1 q2 rfl
    | rt d S' => exact fun ρ' H' v q1 q2 q3 => h3 ρ' H' v q1 q2 q3
    | exc C fs env S' => exact fun ρ' H' σ' d vs q1 q2 q3 q4 q5 q6 => h3 ρ' H' d vs q1 q2 q4 q5 q6
    | bk env S' => exact h3.elim
    | ct env S' => exact h3.elim
    | bad => exact h3.elim
theorem FD.mono {j : Nat} {m : FM} (F : FD P w K mg base x st ps j m) (h : j ≤ k) : FD P w K mg base x st ps k m := by
  obtain ⟨f, fd, G, F⟩ := F.ex
  exact ⟨f, fd, G, F.mono h⟩
/-- another reading of the same def -/
theorem FD.imp {m m' : FM} (F : FD P w K mg base x st ps k m) (h : ∀ ρ S H ds E Q, ds.length = ps.length → SOk K ρ S H → Post K E (Rp K) ρ H [] (m' ds S) Q → Post K E (Rp K) ρ H [] (m ds S) Q) : FD P w K mg base x st ps k m' := by
  obtain ⟨f, fd, G, F⟩ := F.ex
  exact ⟨f, fd, G, F.imp fun vs H Q E ⟨ρ, S, ds, h1, h2, h3, h4⟩ => ⟨ρ, S, ds, h1, h2, h3, h ρ S H ds _ Q h1 h2 h4⟩⟩
end
/-! ### what a call leaves of the store: nothing of its own -/
mutual
def D.lo (n : Nat) : D → Prop
  | .tup l => D.los n l
  | .lst l => D.los n l
  | .wls l => D.los n l
  | .loc m => m < n
  | _ => True
def D.los (n : Nat) : List D → Prop
  | [] => True
  | d :: ds => D.lo n d ∧ D.los n ds
end
def kvBelow {κ : Type} (n : Nat) : List (κ × D) → Prop
  | [] => True
  | d :: ds => D.lo n d.2 ∧ kvBelow n ds
def O.lo (n : Nat) : O → Prop
  | .lst l => D.los n l
  | .dct l => kvBelow n l
  | .dcT l => kvBelow n l
  | .ins _ l => kvBelow n l
def gcOk (S S' : Sto) : Prop := S.length ≤ S'.length ∧ ∀ i, i < S.length → S'[i]? = S[i]? ∨ ∃ o, S'[i]? = some o ∧ o.lo S.length
open Classical in
noncomputable def gcR (S : Sto) : R D → R D
  | .ok d S' => if gcOk S S' ∧ d.lo S.length then .ok d (S'.take S.length) else .bad
  | .exc C fs S' => if gcOk S S' ∧ kvBelow S.length fs then .exc C fs (S'.take S.length) else .bad
  | .bad => .bad
def Rho.cut (ρ : Rho) (n : Nat) : Rho := ⟨fun m => if m < n then ρ.m m else none, ρ.pv⟩
section
variable {K : PySem.W.Frag} {ρ ρ' : Rho} {S S' : Sto} {H H' : Hp} {n : Nat}
theorem Rho.no_cut {q : Addr} (h : ρ.no q) : (ρ.cut n).no q := by
  refine ⟨fun m z => ?_, h.2⟩
  unfold Rho.cut at z
  simp only at z
  split at z
  · exact h.1 m z
  · cases z
mutual
theorem Rp.cut : ∀ (d : D) (v : V), Rp K ρ H d v → d.lo n → Rp K (ρ.cut n) H d v
  | .non, v, h, _ => h
  | .bl b, v, h, _ => h
  | .int i, v, h, _ => h
  | .str x, v, h, _ => h
  | .tup l, v, h, b => by
    obtain ⟨p, vs, e, h1, h2⟩ := h
    exact ⟨p, vs, e, h1, Rps.cutN l vs h2 b⟩
  | .lst l, v, h, b => by
    obtain ⟨p, vs, e, h1, h2, h3⟩ := h
    exact ⟨p, vs, e, h1, Rho.no_cut h2, Rps.cutN l vs h3 b⟩
  | .wls l, v, h, b => by
    obtain ⟨p, vs, e, h1, h2⟩ := h
    exact ⟨p, vs, e, h1, Rps.cutN l vs h2 b⟩
  | .loc m, v, h, b => by
    obtain ⟨a, e, h1⟩ := h
    have b' : m < n := b
    exact ⟨a, e, by unfold Rho.cut; simp only; rw [if_pos b']; exact h1⟩
  | .gl a, v, h, _ => h
  | .ty n, v, h, _ => h
theorem Rps.cutN : ∀ (ds : List D) (vs : List V), Rps K ρ H ds vs → D.los n ds → Rps K (ρ.cut n) H ds vs
  | [], vs, h, _ => h
  | d :: ds, vs, h, b => by
    obtain ⟨v, r, e, h1, h2⟩ := h
    exact ⟨v, r, e, Rp.cut d v h1 b.1, Rps.cutN ds r h2 b.2⟩
end
theorem KVs.cut {κ : Type} : ∀ (l : List (κ × D)) (vs : List (κ × V)), KVs K ρ H l vs → kvBelow n l → KVs K (ρ.cut n) H l vs
  | [], _, h, _ => h
  | d :: ds, _, h, b => by obtain ⟨v, r, e, h1, h2⟩ := h; exact ⟨v, r, e, Rp.cut _ _ h1 b.1, KVs.cut ds r h2 b.2⟩
theorem OOk.cut {a : Addr} {o : O} (h : OOk K ρ H a o) (b : o.lo n) : OOk K (ρ.cut n) H a o := by
  cases o with
  | lst l => obtain ⟨vs, h1, h2⟩ := h; exact ⟨vs, h1, Rps.cutN l vs h2 b⟩
  | dct l => obtain ⟨vs, h1, h2⟩ := h; exact ⟨vs, h1, KVs.cut l vs h2 b⟩
  | dcT l => obtain ⟨vs, h1, h2⟩ := h; exact ⟨vs, h1, KVs.cut l vs h2 b⟩
  | ins C l => obtain ⟨dx, vs, h1, h2⟩ := h; exact ⟨dx, vs, h1, KVs.cut l vs h2 b⟩
mutual
theorem Rp.isLo (hd : ∀ m a, ρ.m m = some a → m < n) : ∀ (d : D) (v : V), Rp K ρ H d v → d.lo n
  | .non, v, h => trivial
  | .bl b, v, h => trivial
  | .int i, v, h => trivial
  | .str x, v, h => trivial
  | .tup l, v, h => by obtain ⟨p, vs, e, h1, h2⟩ := h; exact Rps.isLo hd l vs h2
  | .lst l, v, h => by obtain ⟨p, vs, e, h1, h2, h3⟩ := h; exact Rps.isLo hd l vs h3
  | .wls l, v, h => by obtain ⟨p, vs, e, h1, h2⟩ := h; exact Rps.isLo hd l vs h2
  | .loc m, v, h => by obtain ⟨a, e, h1⟩ := h; exact hd m a h1
  | .gl a, v, h => trivial
  | .ty n, v, h => trivial
theorem Rps.isLo (hd : ∀ m a, ρ.m m = some a → m < n) : ∀ (ds : List D) (vs : List V), Rps K ρ H ds vs → D.los n ds
  | [], vs, h => trivial
  | d :: ds, vs, h => by obtain ⟨v, r, e, h1, h2⟩ := h; exact ⟨Rp.isLo hd d v h1, Rps.isLo hd ds r h2⟩
end
theorem KVs.isLo {κ : Type} (hd : ∀ m a, ρ.m m = some a → m < n) : ∀ (l : List (κ × D)) (vs : List (κ × V)), KVs K ρ H l vs → kvBelow n l
  | [], _, _ => trivial
  | d :: ds, _, h => by obtain ⟨v, r, e, h1, h2⟩ := h; exact ⟨Rp.isLo hd _ _ h1, KVs.isLo hd ds r h2⟩
theorem OOk.isLo (hd : ∀ m a, ρ.m m = some a → m < n) {a : Addr} {o : O} (h : OOk K ρ H a o) : o.lo n := by
  cases o with
  | lst l => obtain ⟨vs, h1, h2⟩ := h; exact Rps.isLo hd l vs h2
  | dct l => obtain ⟨vs, h1, h2⟩ := h; exact KVs.isLo hd l vs h2
  | dcT l => obtain ⟨vs, h1, h2⟩ := h; exact KVs.isLo hd l vs h2
  | ins C l => obtain ⟨dx, vs, h1, h2⟩ := h; exact KVs.isLo hd l vs h2
theorem gc_sok (hS : SOk K ρ S H) (hS' : SOk K ρ' S' H') (g : gcOk S S') : SOk K (ρ'.cut S.length) (S'.take S.length) H' := by
  refine ⟨fun i j a h1 h2 => ?_, fun i a h => ?_, fun i o e => ?_, fun a z => ?_⟩
  · unfold Rho.cut at h1 h2
    simp only at h1 h2
    split at h1
    · split at h2
      · exact hS'.inj i j a h1 h2
      · cases h2
    · cases h1
  · unfold Rho.cut at h
    simp only at h
    split at h
    · rename_i hi
      rw [List.length_take]
      have := g.1
      omega
    · cases h
  · have hi : i < S.length := by
      have := (List.getElem?_eq_some_iff.mp e).1
      rw [List.length_take] at this
      omega
    rw [List.getElem?_take_of_lt hi] at e
    obtain ⟨a, ha, ok⟩ := hS'.obj i o e
    refine ⟨a, by unfold Rho.cut; simp only; rw [if_pos hi]; exact ha, ok.cut ?_⟩
    rcases g.2 i hi with q | ⟨o', q, b⟩
    · rw [e] at q
      obtain ⟨a0, _, ok0⟩ := hS.obj i o q.symm
      exact ok0.isLo hS.dom
    · rw [e] at q; cases q; exact b
  · obtain ⟨h1, h2⟩ := hS'.prv a z
    refine ⟨h1, fun m q => ?_⟩
    unfold Rho.cut at q
    simp only at q
    split at q
    · exact h2 m q
    · cases q
theorem gc_stp (hS : SOk K ρ S H) (st : Stp ρ ρ' H H') : Stp ρ (ρ'.cut S.length) H H' where
  up m a h := by unfold Rho.cut; simp only; rw [if_pos (hS.dom m a h)]; exact st.up m a h
  new m a h := by
    unfold Rho.cut at h
    simp only at h
    split at h
    · exact st.new m a h
    · cases h
  pv := st.pv
  pvu := st.pvu
  keep := st.keep
  live := st.live
theorem gc_post {W : WX} {σ : L2.St} {r : R D} {Q : VK} (hS : SOk K ρ S H) (h : Post K W (Rp K) ρ H σ (gcR S r) Q) : Post K W (Rp K) ρ H σ r Q := by
  cases r with
  | ok d S' =>
    simp only [gcR] at h
    split at h
    · rename_i g
      intro ρ' H' v hS' st rv
      exact h (ρ'.cut S.length) H' v (gc_sok hS hS' g.1) (gc_stp hS st) (rv.cut _ _ g.2)
    · exact h.elim
  | exc C fs S' =>
    simp only [gcR] at h
    split at h
    · rename_i g
      intro ρ' H' d vs hS' st q1 q2 q3
      exact h (ρ'.cut S.length) H' d vs (gc_sok hS hS' g.1) (gc_stp hS st) (Rho.no_cut q1) q2 (KVs.cut _ _ q3 g.2)
    · exact h.elim
  | bad => exact h
end
/-! a list that the call made is handed on as one that stays -/
open Classical in
noncomputable def gcF (S : Sto) (r : R D) : R D := match r with
  | .ok d S' => match d with
    | .loc n => match S'[n]? with
      | some (.lst l) => if S.length ≤ n ∧ gcOk S S' ∧ D.los S.length l then .ok (.lst l) (S'.take S.length) else .bad
      | _ => .bad
    | _ => gcR S r
  | _ => gcR S r
section
variable {K : PySem.W.Frag} {ρ ρ' : Rho} {S S' : Sto} {H H' : Hp} {n : Nat}
theorem gcF_post {W : WX} {σ : L2.St} {r : R D} {Q : VK} (hS : SOk K ρ S H) (h : Post K W (Rp K) ρ H σ (gcF S r) Q) : Post K W (Rp K) ρ H σ r Q := by
  cases r with
  | ok d S' =>
    cases d with
    | loc n =>
      unfold gcF at h
      simp only at h
      split at h
      · rename_i l hn
        split at h
        · rename_i g
          intro ρ' H' v hS' st rv
          obtain ⟨p, rfl, e⟩ := rv
          obtain ⟨a1, e1, vs, hx, rr⟩ := hS'.obj n _ hn
          rw [e] at e1; cases e1
          refine h (ρ'.cut S.length) H' (.ref p) (gc_sok hS hS' g.2.1) (gc_stp hS st) ⟨p, vs, rfl, hx, ⟨fun m z => ?_, fun z => (hS'.prv p z).2 n e⟩, Rps.cutN _ _ rr g.2.2⟩
          unfold Rho.cut at z
          simp only at z
          split at z
          · have := hS'.inj m n p z e
            omega
          · cases z
        · exact h.elim
      · exact h.elim
    | _ => exact gc_post hS h
  | exc C fs S' => exact gc_post hS h
  | bad => exact gc_post hS h
end
section
variable {P : Program} {w : World} {K : PySem.W.Frag} {mg : Str → Option Value} {base : Heap} {x : Str} {st : Stmt} {N ps : List Str} {k : Nat} {m : FM}
theorem FD.gc (F : FD P w K mg base x st ps k m) : FD P w K mg base x st ps k (fun ds S => gcR S (m ds S)) := F.imp fun _ _ _ _ _ _ _ hS h => gc_post hS h
theorem FD.gcF (F : FD P w K mg base x st ps k m) : FD P w K mg base x st ps k (fun ds S => Mi.gcF S (m ds S)) := F.imp fun _ _ _ _ _ _ _ hS h => gcF_post hS h
end
/-! ### calls of defs -/
def mCall (np : Nat) (m : FM) (n : AM) : TM := fun env S => (n env S).bind fun ds S1 => if ds.length = np then m ds S1 else .bad
def gPerm {α : Type} (idx : List Nat) (us ws : List α) : List α := idx.filterMap fun i => (us ++ ws)[i]?
def mCallK (np n1 n2 : Nat) (idx : List Nat) (m : FM) (n nk : AM) : TM := fun env S => (n env S).bind fun ds S1 => (nk env S1).bind fun es S2 => if ds.length = n1 ∧ es.length = n2 then m (gPerm idx ds es) S2 else .bad
theorem gPerm_vals {idx : List Nat} {vs zs : List V} {us ws : List Value} (r1 : Vals vs us) (r2 : Vals zs ws) : Vals (gPerm idx vs zs) (gPerm idx us ws) := by
  have r := Vals.append r1 r2
  unfold gPerm
  induction idx with
  | nil => exact .nil
  | cons i idx ih =>
    rw [List.filterMap_cons, List.filterMap_cons]
    cases e : (vs ++ zs)[i]? with
    | none => rw [r.none_of e]; exact ih
    | some v =>
      obtain ⟨u, e2, rv⟩ := r.get e
      rw [e2]
      exact .cons rv ih
theorem gPerm_rps {K : PySem.W.Frag} {ρ : Rho} {H : Hp} {idx : List Nat} {ds es : List D} {vs zs : List V} (r1 : Rps K ρ H ds vs) (r2 : Rps K ρ H es zs) : Rps K ρ H (gPerm idx ds es) (gPerm idx vs zs) := by
  have r := r1.append r2
  unfold gPerm
  induction idx with
  | nil => rfl
  | cons i idx ih =>
    rw [List.filterMap_cons, List.filterMap_cons]
    cases e : (ds ++ es)[i]? with
    | none =>
      have e3 : (vs ++ zs)[i]? = none := by
        rw [List.getElem?_eq_none_iff] at e ⊢
        rw [← r.length]; exact e
      rw [e3]; exact ih
    | some v =>
      obtain ⟨u, e2, rv⟩ := r.get e
      rw [e2]
      exact ⟨u, _, rfl, rv, ih⟩
theorem funD_kb {K : PySem.W.Frag} {x qual : Str} {params : Arguments} {body : List Stmt} {scope : Scope} {kws : List (Str × V)} {f : Addr} {fd : FuncData} {ps : List Str} (F : FunD K x qual params body scope [] kws f fd) (n : Nat) (ks : List Str) (idx : List Nat)
    (h : ∀ (kV doc pm : Value) (an : Option Addr) (cdv ct : Value) (us ws : List Value), us.length = n → ws.length = ks.length → bindArgs (PySem.W.fnOf x qual params body scope .none kV doc pm an cdv ct) ⟨us, ks.zip ws⟩ = pure (ps.zip (gPerm idx us ws))) : KBn K fd ps n ks (gPerm idx) (gPerm idx) := by
  obtain ⟨oc, od, dV, kV, doc, pm, an, cdv, ct, osl, rfl, lk, hcd, hD, hK⟩ := F.ex
  rcases hD with ⟨_, rfl⟩ | ⟨e, _⟩
  · exact ⟨fun s us ws _ l1 l2 => .of_eq (h kV doc pm an cdv ct us ws l1 l2), fun r1 r2 => gPerm_vals r1 r2⟩
  · exact absurd rfl e
structure DK (X : Cx) (W : WX) (kws : List Keyword) (m : AM) : Prop where
  p : PK X kws (tA X.K W m)
section
variable {X : Cx} {W : WX} {x : Str} {p pos kpos : Pos} {e : Expr} {es : List Expr} {kws : List Keyword} {n nk : AM} {me : TM} {m : FM} {st : Stmt} {ps ks : List Str} {k : Nat} {nm : Option Str}
theorem PK.imp {e : List Keyword} {t t' : TA} (h : PK X e t) (i : ∀ σ H Q, t' σ H Q → t σ H Q) : PK X e t' := ⟨fun pos pins s σ H Q I q => h.run pos pins s σ H Q I (i σ H Q q)⟩
theorem k_nil : DK X W [] aNil := ⟨PK.imp pk_nil fun σ H Q ⟨ρ, S, env, hS, hE, h⟩ => h ρ H [] hS .refl rfl⟩
theorem k_cons (h : DE X W e me) (hr : DK X W kws nk) : DK X W (⟨nm, e, kpos⟩ :: kws) (aCons me nk) :=
  ⟨PK.imp (pk_cons h.p hr.p) fun σ H Q ⟨ρ, S, env, hS, hE, h⟩ => by
    refine Post.bindK hS hE h fun x H1 ρ1 S1 d1 hS1 hE1 st1 r1 h1 => ?_
    refine Post.bindK hS1 hE1 h1 fun y H2 ρ2 S2 l hS2 hE2 st2 r2 h2 => ?_
    exact h2 ρ2 H2 (x :: y) hS2 .refl ⟨x, y, rfl, r1.step hS1 st2, r2⟩⟩
/-- how the parameters are bound by position -/
def BindOk (x : Str) (st : Stmt) (ps : List Str) : Prop := ∀ (kV doc pm : Value) (an : Option Addr) (cdv ct : Value) (us : List Value), us.length = ps.length → bindArgs (PySem.W.fnOf x x (defArgs st) (defBody st) (defScope st) .none kV doc pm an cdv ct) ⟨us, []⟩ = pure (ps.zip us)
def BindKOk (x : Str) (st : Stmt) (ps : List Str) (n : Nat) (ks : List Str) (idx : List Nat) : Prop := ∀ (kV doc pm : Value) (an : Option Addr) (cdv ct : Value) (us ws : List Value), us.length = n → ws.length = ks.length →
  bindArgs (PySem.W.fnOf x x (defArgs st) (defBody st) (defScope st) .none kV doc pm an cdv ct) ⟨us, ks.zip ws⟩ = pure (ps.zip (gPerm idx us ws))
/-- the end of a call's reading -/
theorem call_end {K : PySem.W.Frag} {ρ : Rho} {S : Sto} {H : Hp} {σ : L2.St} {ds : List D} {vs : List V} {Q : VK} {np : Nat} (hS : SOk K ρ S H) (r : Rps K ρ H ds vs) (hl : ds.length = np) (h : Post K W (Rp K) ρ H σ (m ds S) Q) : spD K np m vs H Q (WE W σ) := by
  refine ⟨ρ, S, ds, hl, hS, r, ?_⟩
  revert h
  generalize m ds S = q
  intro h
  cases q with
  | ok d S1 => exact h
  | exc C fs S1 => exact h
  | bad => exact h
theorem d_call (F : FD X.prog X.w X.K X.mg X.base x st ps k m) (hb : BindOk x st ps) (hr : Room k X.A) (hg : Gl X x) (tk : Takes X W) (ha : DA X W (e :: es) n) (hdb : (x == ("__debug__" : Str)) = false := by decide)
    (he : starEach (e :: es) X.env = (false, eval e X.env) :: starEach es X.env := by rfl) (hpl : (backTo pos (starEach es X.env)).any (·.1) = false := by rfl) :
    DE X W (.Call (.Name x p) (e :: es) [] pos) (mCall ps.length m n) := by
  obtain ⟨f, fd, G, F⟩ := F.ex
  refine ⟨PE.imp (pe_callS F hr hg G.gl G.fn.kp (G.fn.bindsN hb) (E := WE W) (fun σ => passAt tk σ) ha.p hdb he hpl) fun σ H Q ⟨ρ, S, env, hS, hE, h⟩ => ?_⟩
  refine Post.bindK hS hE h fun vs H1 ρ1 S1 ds hS1 hE1 st1 r1 h1 => ?_
  split at h1
  · rename_i hl
    exact call_end hS1 r1 hl h1
  · exact h1.elim
theorem d_call0 (F : FD X.prog X.w X.K X.mg X.base x st [] k m) (hb : BindOk x st []) (hr : Room k X.A) (hg : Gl X x) (tk : Takes X W) (hdb : (x == ("__debug__" : Str)) = false := by decide) :
    DE X W (.Call (.Name x p) [] [] pos) (mCall 0 m aNil) := by
  obtain ⟨f, fd, G, F⟩ := F.ex
  refine ⟨⟨fun pins s σ H Q I h => ?_⟩⟩
  refine wpAny_Call_Name_kw (ld_glob I hg G.gl ?_ hdb)
  refine PySem.W.callWith_K0 I.kIn G.fn.kp ?_
  obtain ⟨ρ, S, env, hS, hE, h⟩ := h
  exact run_fnS (us := []) F hr (G.fn.bindsN hb) (passAt tk σ) I .nil (call_end (ds := []) hS rfl rfl h)
theorem run_kwS {pins : List (Addr × Obj)} {σ : L2.St} {H : Hp} {s : Shared} {Q : VK} {us ws : List Value} {vs zs : List V} {f : Addr} {fd : FuncData} {sp : Sp} {E : L2.St → XK} {n1 : Nat} {g : List Value → List Value → List Value} {gV : List V → List V → List V}
    (F : FnOk X.prog X.w X.K X.mg X.base (L2.CX X.prog X.w) k f fd ps sp) (hr : Room k X.A) (hb : KBn X.K fd ps n1 ks g gV) (hx : PassesAt (L2.CX X.prog X.w) X σ (E σ))
    (I : Inv X pins σ H s) (r : Vals vs us) (rz : Vals zs ws) (l1 : vs.length = n1) (l2 : zs.length = ks.length) (h : sp (gV vs zs) H Q (E σ)) : wpAny (model X.prog X.w) X.A (call (.ref f) us (ks.zip ws)) (EP X pins σ Q) X.xe s := by
  have r2 := hb.rel r rz
  refine wpAny_call (codeAny_mono (F.run X.A X.stack s H ⟨us, ks.zip ws⟩ (g us ws) (gV vs zs) Q (E σ) hr I.env0 (hb.to s us ws I.kIn (r.length.symm.trans l1) (rz.length.symm.trans l2)) r2 h) fun r s' hq => ?_)
  cases r with
  | error e => exact hx pins H s e s' I hq
  | ok fl =>
    cases fl with
    | ret u => exact I.after hq
    | next => exact False.elim hq
    | brk => exact False.elim hq
    | cont => exact False.elim hq
theorem d_callK {n1 : Nat} {idx : List Nat} (F : FD X.prog X.w X.K X.mg X.base x st ps k m) (hb : BindKOk x st ps n1 ks idx) (hi : idx.length = ps.length) (hi2 : ∀ i ∈ idx, i < n1 + ks.length) (hr : Room k X.A) (hg : Gl X x) (tk : Takes X W) (ha : DA X W (e :: es) n) (hk : DK X W kws nk)
    (hall : (backToKw pos (keywordEach kws X.env)).all (·.1.isSome) = true := by rfl) (hks : (backToKw pos (keywordEach kws X.env)).filterMap (·.1) = ks := by rfl)
    (hdb : (x == ("__debug__" : Str)) = false := by decide) (he : starEach (e :: es) X.env = (false, eval e X.env) :: starEach es X.env := by rfl)
    (hpl : ((backTo pos (starEach (e :: es) X.env)).any (·.1) || (backToKw pos (keywordEach kws X.env)).any (·.1.isNone)) = false := by rfl) :
    DE X W (.Call (.Name x p) (e :: es) kws pos) (mCallK ps.length n1 ks.length idx m n nk) := by
  obtain ⟨f, fd, G, F⟩ := F.ex
  refine ⟨⟨fun pins s σ H Q I h => ?_⟩⟩
  refine wpAny_Call_Name_kw (ld_glob I hg G.gl ?_ hdb)
  obtain ⟨ρ, S, env, hS, hE, h⟩ := h
  have hq : tA X.K W n σ H fun vs H1 => tA X.K W nk σ H1 fun zs H2 => vs.length = n1 ∧ zs.length = ks.length ∧ spD X.K ps.length m (gPerm idx vs zs) H2 Q (WE W σ) := by
    refine Post.bindK hS hE h fun vs H1 ρ1 S1 ds hS1 hE1 st1 r1 h1 => ?_
    refine Post.bindK hS1 hE1 h1 fun zs H2 ρ2 S2 es' hS2 hE2 st2 r2 h2 => ?_
    split at h2
    · rename_i hl
      refine ⟨by rw [← r1.length]; exact hl.1, by rw [← r2.length]; exact hl.2, call_end hS2 (gPerm_rps (Rps.step hS1 st2 _ _ r1) r2) ?_ h2⟩
      unfold gPerm
      rw [← hi]
      have all : ∀ i ∈ idx, ∃ d, (ds ++ es')[i]? = some d := fun i hmem => by
        have := hi2 i hmem
        have hlt : i < (ds ++ es').length := by rw [List.length_append, hl.1, hl.2]; exact this
        exact ⟨_, List.getElem?_eq_getElem hlt⟩
      clear h h1 h2 hi hi2 hb
      induction idx with
      | nil => rfl
      | cons i idx ih =>
        obtain ⟨d, hd⟩ := all i List.mem_cons_self
        rw [List.filterMap_cons, hd, List.length_cons, List.length_cons, ih fun j hj => all j (List.mem_cons_of_mem _ hj)]
    · exact h2.elim
  refine PySem.W.callWith_KW (h₀ := X.base) I.ok.mod.kin G.fn.kp hall (thn (ha.p.run pos pins s σ H _ I hq) fun us s1 ⟨vs, H1, I1, r, q⟩ => ?_) hpl he
  refine thn (hk.p.run pos pins s1 σ H1 _ I1 q) fun ws s2 ⟨zs, H2, I2, rz, l1, l2, q2⟩ => ⟨I2.kIn, ?_⟩
  rw [hks]
  exact run_kwS F hr (funD_kb G.fn n1 ks idx hb) (passAt tk σ) I2 r rz l1 l2 q2
theorem d_callK0 {idx : List Nat} (F : FD X.prog X.w X.K X.mg X.base x st ps k m) (hb : BindKOk x st ps 0 ks idx) (hi : idx.length = ps.length) (hi2 : ∀ i ∈ idx, i < 0 + ks.length) (hr : Room k X.A) (hg : Gl X x) (tk : Takes X W) (hk : DK X W kws nk)
    (hall : (backToKw pos (keywordEach kws X.env)).all (·.1.isSome) = true := by rfl) (hks : (backToKw pos (keywordEach kws X.env)).filterMap (·.1) = ks := by rfl)
    (hdb : (x == ("__debug__" : Str)) = false := by decide)
    (hpl : ((backTo pos (starEach [] X.env)).any (·.1) || (backToKw pos (keywordEach kws X.env)).any (·.1.isNone)) = false := by rfl) :
    DE X W (.Call (.Name x p) [] kws pos) (mCallK ps.length 0 ks.length idx m aNil nk) := by
  obtain ⟨f, fd, G, F⟩ := F.ex
  refine ⟨⟨fun pins s σ H Q I h => ?_⟩⟩
  refine wpAny_Call_Name_kw (ld_glob I hg G.gl ?_ hdb)
  obtain ⟨ρ, S, env, hS, hE, h⟩ := h
  have hq : tA X.K W nk σ H fun zs H2 => zs.length = ks.length ∧ spD X.K ps.length m (gPerm idx [] zs) H2 Q (WE W σ) := by
    refine Post.bindK hS hE h fun zs H2 ρ2 S2 es' hS2 hE2 st2 r2 h2 => ?_
    split at h2
    · rename_i hl
      refine ⟨by rw [← r2.length]; exact hl.2, call_end hS2 (gPerm_rps (ds := []) (vs := []) rfl r2) ?_ h2⟩
      unfold gPerm
      rw [← hi]
      have all : ∀ i ∈ idx, ∃ d, (([] : List D) ++ es')[i]? = some d := fun i hmem => by
        have := hi2 i hmem
        have hlt : i < (([] : List D) ++ es').length := by rw [List.length_append, hl.2]; exact this
        exact ⟨_, List.getElem?_eq_getElem hlt⟩
      clear h h2 hi hi2 hb
      induction idx with
      | nil => rfl
      | cons i idx ih =>
        obtain ⟨d, hd⟩ := all i List.mem_cons_self
        rw [List.filterMap_cons, hd, List.length_cons, List.length_cons, ih fun j hj => all j (List.mem_cons_of_mem _ hj)]
    · exact h2.elim
  refine PySem.W.callWith_KW0 (h₀ := X.base) I.ok.mod.kin G.fn.kp hall ?_ hpl
  refine thn (hk.p.run pos pins s σ H _ I hq) fun ws s2 ⟨zs, H2, I2, rz, l2, q2⟩ => ⟨I2.kIn, ?_⟩
  rw [hks]
  exact run_kwS (us := []) (vs := []) F hr (funD_kb G.fn 0 ks idx hb) (passAt tk σ) I2 .nil rz rfl l2 q2
/-! names of the module and of Python -/
theorem d_ty {v : String} (hg : Gl X x) (hm : X.mg x = none) (hv : bootBuiltins x = some (.type v)) (hn : x ≠ "__name__" := by decide) (hdb : (x == ("__debug__" : Str)) = false := by decide) : DE X W (.Name x pos) (mC (.ty v)) :=
  ⟨PE.imp (pe_bltn (v := .ty v) hg hm hv rfl hn hdb) fun σ H Q ⟨ρ, S, env, hS, hE, h⟩ => h ρ H (.ty v) hS .refl rfl⟩
theorem d_glob {d : D} {v : V} {u : Value} (hg : Gl X x) (hm : X.mg x = some u) (r : RelV v u) (hr : ∀ ρ H, Rp X.K ρ H d v) (hdb : (x == ("__debug__" : Str)) = false := by decide) : DE X W (.Name x pos) (mC d) :=
  ⟨PE.imp (pe_glob hg hm r hdb) fun σ H Q ⟨ρ, S, env, hS, hE, h⟩ => h ρ H v hS .refl (hr ρ H)⟩
theorem d_gint {i : Int} (hg : Gl X x) (hm : ∃ t, X.mg x = some (.int i t)) (hdb : (x == ("__debug__" : Str)) = false := by decide) : DE X W (.Name x pos) (mC (.int i)) := by
  obtain ⟨t, hm⟩ := hm
  exact d_glob (v := .int i) hg hm ⟨t, rfl⟩ (fun _ _ => rfl) hdb
theorem d_gstr {z : Str} (hg : Gl X x) (hm : ∃ t, X.mg x = some (.str z t)) (hdb : (x == ("__debug__" : Str)) = false := by decide) : DE X W (.Name x pos) (mC (.str z)) := by
  obtain ⟨t, hm⟩ := hm
  exact d_glob (v := .str z) hg hm ⟨t, rfl⟩ (fun _ _ => rfl) hdb
end
/-! a[::-1] of a list -/
def revD (S : Sto) (d : D) : Option (List D) := (lstD S d).map List.reverse
def mRev (m : TM) : TM := fun env S => (m env S).bind fun d S1 => match revD S1 d with
  | some l => .ok (.lst l) S1
  | none => .bad
def mRevN (m : TM) : TM := fun env S => (m env S).bind fun d S1 => match revD S1 d with
  | some l => R.new (.lst l) S1
  | none => .bad
theorem Rps.reverse {K : PySem.W.Frag} {ρ : Rho} {H : Hp} : ∀ {l : List D} {vs : List V}, Rps K ρ H l vs → Rps K ρ H l.reverse vs.reverse
  | [], _, h => by cases h; rfl
  | d :: ds, _, h => by
    obtain ⟨v, r, rfl, h1, h2⟩ := h
    rw [List.reverse_cons, List.reverse_cons]
    exact (Rps.reverse h2).append (es := [d]) (ws := [v]) ⟨v, [], rfl, h1, rfl⟩
section
variable {X : Cx} {W : WX} {e : Expr} {m : TM} {p1 p2 p3 pos : Pos} {k : Nat}
theorem d_rev (he : DE X W e m) : DE X W (.Subscript e (.Slice none none (some (.UnaryOp .USub (.Constant (.int 1) k p1) p2)) p3) pos) (mRev m) :=
  ⟨PE.imp (pe_revL he.p) fun σ H Q ⟨ρ, S, env, hS, hE, h⟩ => Post.bindK hS hE h fun v H1 ρ1 S1 d hS1 hE1 st1 r1 h1 => by
    unfold revD at h1
    cases hl : lstD S1 d with
    | none => rw [hl] at h1; exact h1.elim
    | some l =>
      rw [hl] at h1
      obtain ⟨p, vs, e1, h2, h3⟩ := der_lst hS1 r1 hl
      subst e1
      exact ⟨p, vs, rfl, h2, fun q hq => new_lst hS1 h3.reverse hq h1⟩⟩
theorem d_revN (he : DE X W e m) : DE X W (.Subscript e (.Slice none none (some (.UnaryOp .USub (.Constant (.int 1) k p1) p2)) p3) pos) (mRevN m) :=
  ⟨PE.imp (pe_revL he.p) fun σ H Q ⟨ρ, S, env, hS, hE, h⟩ => Post.bindK hS hE h fun v H1 ρ1 S1 d hS1 hE1 st1 r1 h1 => by
    unfold revD at h1
    cases hl : lstD S1 d with
    | none => rw [hl] at h1; exact h1.elim
    | some l =>
      rw [hl] at h1
      obtain ⟨p, vs, e1, h2, h3⟩ := der_lst hS1 r1 hl
      subst e1
      exact ⟨p, vs, rfl, h2, fun q hq => new_loc hS1 h3.reverse hq h1⟩⟩
end
end Mi

namespace Mi
open PySem PySem.Spec PyProof.Rows L2
/-! ### dict displays -/
section
variable {K : PySem.W.Frag} {ρ ρ' : Rho} {S S' : Sto} {H H' : Hp} {p : Addr} {env : En} {σ : L2.St}
theorem OOk.pupd {a : Addr} {ho : HO} {o : O} (hne : a ≠ p) (hp : ∀ u, H p = some u → Mk u) (pv : ρ.pv p) (ok : OOk K ρ H a o) : OOk K ρ (upd H p ho) a o := by
  cases o with
  | lst l => obtain ⟨vs, h1, h2⟩ := ok; exact ⟨vs, by rw [upd_ne hne]; exact h1, Rps.pupd hp pv l vs h2⟩
  | dct l => obtain ⟨vs, h1, h2⟩ := ok; exact ⟨vs, by rw [upd_ne hne]; exact h1, KVs.pupd hp pv l vs h2⟩
  | dcT l => obtain ⟨vs, h1, h2⟩ := ok; exact ⟨vs, by rw [upd_ne hne]; exact h1, KVs.pupd hp pv l vs h2⟩
  | ins C l => obtain ⟨dx, vs, h1, h2⟩ := ok; exact ⟨dx, vs, by rw [upd_ne hne]; exact h1, KVs.pupd hp pv l vs h2⟩
theorem SOk.pupdO {ho : HO} (hm : Mk ho) (hS : SOk K ρ S H) (pv : ρ.pv p) : SOk K ρ S (upd H p ho) := by
  obtain ⟨⟨u, h1, h2⟩, h3⟩ := hS.prv p pv
  have hp : ∀ u, H p = some u → Mk u := fun u' h => by rw [h1] at h; cases h; exact h2
  refine ⟨hS.inj, hS.dom, fun n o e => ?_, fun a z => ?_⟩
  · obtain ⟨a, ha, ok⟩ := hS.obj n o e
    have hne : a ≠ p := fun z => h3 n (by rw [← z]; exact ha)
    exact ⟨a, ha, ok.pupd hne hp pv⟩
  · by_cases hap : a = p
    · subst hap; exact ⟨⟨_, upd_same, hm⟩, h3⟩
    · obtain ⟨⟨u', h4, h5⟩, h6⟩ := hS.prv a z
      exact ⟨⟨u', by rw [upd_ne hap]; exact h4, h5⟩, h6⟩
theorem SOk.hideO {ho : HO} (hm : Mk ho) (hS : SOk K ρ S H) (hp : H p = none) : SOk K (ρ.hide p) S (upd H p ho) := by
  have b : ∀ n, ρ.m n ≠ some p := (hS.noN hp).1
  refine ⟨hS.inj, hS.dom, fun n o e => ?_, fun a z => ?_⟩
  · obtain ⟨a, ha, ok⟩ := hS.obj n o e
    have hne : a ≠ p := fun z => b n (by rw [← z]; exact ha)
    have ok1 : OOk K (ρ.hide p) H a o := OOk.re (ρ := ρ) (ρ' := ρ.hide p) (fun _ _ z => z) (hide_no hp) ok
    exact ⟨a, ha, ok1.pupd hne (hide_mk hp) (.inr rfl)⟩
  · rcases z with z | z
    · obtain ⟨⟨u', h4, h5⟩, h6⟩ := hS.prv a z
      exact ⟨⟨u', by rw [upd_ne (ne_of_none h4 hp)]; exact h4, h5⟩, h6⟩
    · subst z; exact ⟨⟨_, upd_same, hm⟩, b⟩
theorem EOk.hideO {ho : HO} (hE : EOk K ρ H env σ) (hp : H p = none) : EOk K (ρ.hide p) (upd H p ho) env σ :=
  (EOk.re (ρ := ρ) (ρ' := ρ.hide p) (fun _ _ z => z) (hide_no hp) hE).pupd (hide_mk hp) (.inr rfl)
theorem Stp.putO {ρ0 : Rho} {H0 : Hp} {ho : HO} (st : Stp ρ0 ρ H0 H) (hp : H0 p = none) : Stp ρ0 ρ H0 (upd H p ho) where
  up := st.up
  new := st.new
  pv := st.pv
  pvu := st.pvu
  keep a o h hn := by rw [upd_ne (ne_of_none h hp)]; exact st.keep a o h hn
  live a h := st.live a (upd_live h)
theorem hidden_obj {o : O} (hS : SOk K (ρ.hide p) S H) (ok : OOk K (ρ.hide p) H p o) (hv : ¬ ρ.pv p) : SOk K (ρ.put S.length p) (S ++ [o]) H ∧ Rp K (ρ.put S.length p) H (.loc S.length) (.ref p) := by
  have hm : ∀ n a, (ρ.hide p).m n = some a → (ρ.put S.length p).m n = some a := fun n a h => by
    unfold Rho.put
    simp only
    rw [if_neg (Nat.ne_of_lt (hS.dom n a h))]
    exact h
  have hn : ∀ q vs, H q = some (.lst vs) → (ρ.hide p).no q → (ρ.put S.length p).no q := fun q vs _ h => by
    obtain ⟨h1, h2⟩ := Rho.no_hide h
    refine ⟨fun n z => ?_, h1.2⟩
    unfold Rho.put at z
    simp only at z
    split at z
    · cases z; exact h2 rfl
    · exact h1.1 n z
  have at_ : (ρ.put S.length p).m S.length = some p := by unfold Rho.put; simp
  have np := (hS.prv p (.inr rfl)).2
  refine ⟨⟨fun n m a h1 h2 => ?_, fun n a h => ?_, fun n o' e' => ?_, fun a h => ?_⟩, p, rfl, at_⟩
  · unfold Rho.put at h1 h2
    simp only at h1 h2
    split at h1 <;> split at h2
    · omega
    · cases h1; exact absurd h2 (np m)
    · cases h2; exact absurd h1 (np n)
    · exact hS.inj n m a h1 h2
  · unfold Rho.put at h
    simp only at h
    rw [List.length_append]
    split at h
    · simp; omega
    · have := hS.dom n a h; simp; omega
  · by_cases hlt : n < S.length
    · rw [List.getElem?_append_left hlt] at e'
      obtain ⟨a, ha, ok'⟩ := hS.obj n o' e'
      exact ⟨a, hm n a ha, ok'.re hm hn⟩
    · have hn' : n = S.length := by
        have := (List.getElem?_eq_some_iff.mp e').1
        simp at this; omega
      subst hn'
      simp at e'
      subst e'
      exact ⟨p, at_, ok.re hm hn⟩
  · obtain ⟨h1, h2⟩ := hS.prv a (.inl h)
    refine ⟨h1, fun n z => ?_⟩
    unfold Rho.put at z
    simp only at z
    split at z
    · cases z; exact hv h
    · exact h2 n z
end
def Prs (K : PySem.W.Frag) (ρ : Rho) (H : Hp) : List (D × D) → List (V × V) → Prop
  | [], vs => vs = []
  | d :: ds, vs => ∃ x y r, vs = (x, y) :: r ∧ Rp K ρ H d.1 x ∧ Rp K ρ H d.2 y ∧ Prs K ρ H ds r
abbrev PM := En → Sto → R (List (D × D))
structure DPs (X : Cx) (W : WX) (pos : Pos) (keys : List (Option Expr)) (values : List Expr) (n : PM) : Prop where
  ex : ∃ trs, PPs X pos keys values trs ∧ ∀ σ H Q, tG X.K W (Prs X.K) n σ H Q → tPairs trs σ H Q
def pNil : PM := fun _ S => .ok [] S
def pCons (mk mv : TM) (n : PM) : PM := fun env S => (mk env S).bind fun a S1 => (mv env S1).bind fun b S2 => (n env S2).bind fun l S3 => .ok ((a, b) :: l) S3
def kvsD : List (D × D) → Option (List (Key × D))
  | [] => some []
  | d :: ds => match keyD d.1, kvsD ds with
    | some k, some r => some ((k, d.2) :: r)
    | _, _ => none
def mergeD (l more : List (Key × D)) : List (Key × D) := more.foldl (fun acc kv => putD acc kv.1 kv.2) l
def mDict (n : PM) : TM := fun env S => (n env S).bind fun ps S1 => match kvsD ps with
  | some kvs => if kvs.length ≤ 15 then R.new (.dct (mergeD [] kvs)) S1 else .bad
  | none => .bad
section
variable {X : Cx} {W : WX} {pos : Pos} {k v : Expr} {ks : List (Option Expr)} {vs : List Expr} {mk mv : TM} {n : PM}
theorem p_nil : DPs X W pos [] [] pNil := ⟨[], pps_nil, fun σ H Q ⟨ρ, S, env, hS, hE, h⟩ => h ρ H [] hS .refl rfl⟩
theorem p_cons (hk : DE X W k mk) (hv : DE X W v mv) (hr : DPs X W pos ks vs n) : DPs X W pos (some k :: ks) (v :: vs) (pCons mk mv n) := by
  obtain ⟨trs, h1, h2⟩ := hr.ex
  refine ⟨_, pps_cons hk.p hv.p h1, fun σ H Q ⟨ρ, S, env, hS, hE, h⟩ => ?_⟩
  refine Post.bindK hS hE h fun x H1 ρ1 S1 d1 hS1 hE1 st1 r1 h1 => ?_
  refine Post.bindK hS1 hE1 h1 fun y H2 ρ2 S2 d2 hS2 hE2 st2 r2 h2' => ?_
  refine h2 σ H2 _ (Post.bindK hS2 hE2 h2' fun zs H3 ρ3 S3 l hS3 hE3 st3 r3 h3 => ?_)
  exact h3 ρ3 H3 _ hS3 .refl ⟨x, y, zs, rfl, Rp.step hS1 (st2.trans st3) _ _ r1, r2.step hS2 st3, r3⟩
theorem kvsD_ok {K : PySem.W.Frag} {ρ : Rho} {H : Hp} : ∀ {ps : List (D × D)} {vs : List (V × V)} {kvs : List (Key × D)}, Prs K ρ H ps vs → kvsD ps = some kvs → ∃ ws : List (Key × V), vs = ws.map (fun kv => (kV kv.1, kv.2)) ∧ KVs K ρ H kvs ws
  | [], vs, kvs, h, e => by cases h; cases e; exact ⟨[], rfl, rfl⟩
  | d :: ds, vs, kvs, h, e => by
    obtain ⟨x, y, r, rfl, h1, h2, h3⟩ := h
    unfold kvsD at e
    split at e
    · rename_i k r' ek er
      cases e
      obtain ⟨ws, rfl, q⟩ := kvsD_ok h3 er
      have := Rp.key h1 ek
      subst this
      exact ⟨(k, y) :: ws, rfl, y, ws, rfl, h2, q⟩
    · cases e
theorem KVs.merge {K : PySem.W.Frag} {ρ : Rho} {H : Hp} : ∀ {more : List (Key × D)} {ws : List (Key × V)} {l : List (Key × D)} {vs : List (Key × V)}, KVs K ρ H more ws → KVs K ρ H l vs → KVs K ρ H (mergeD l more) (mergeK vs ws)
  | [], _, _, _, h, h0 => by cases h; exact h0
  | d :: ds, _, _, _, h, h0 => by
    obtain ⟨v, r, rfl, h1, h2⟩ := h
    show KVs K ρ H (mergeD (putD _ d.1 d.2) ds) (mergeK (putK _ d.1 v) r)
    exact KVs.merge (more := ds) h2 (h0.put h1)
theorem d_dict (h : DPs X W pos ks vs n) (hall : ks.all (·.isSome) = true := by rfl) (hl : ks.length = vs.length := by rfl) (h0 : ks ≠ [] := by exact List.cons_ne_nil _ _) (h15 : ks.length ≤ 15 := by decide) : DE X W (.Dict ks vs pos) (mDict n) := by
  obtain ⟨trs, h1, h2⟩ := h.ex
  refine ⟨PE.imp (pe_disp h1 hall hl h0 h15) fun σ H Q ⟨ρ, S, env, hS, hE, h⟩ p hp => h2 _ _ _ ?_⟩
  have hv : ¬ ρ.pv p := (hS.noN hp).2
  have st0 : Stp ρ (ρ.hide p) H (upd H p (.dK [])) := Stp.hide (Stp.alloc hp) hp
  have hS0 : SOk X.K (ρ.hide p) S (upd H p (.dK [])) := hS.hideO trivial hp
  refine ⟨ρ.hide p, S, env, hS0, hE.hideO hp, ?_⟩
  unfold mDict at h
  revert h
  generalize n env S = r
  intro h
  cases r with
  | bad => exact h
  | exc C fs S1 => exact fun ρ4 H4 d xs q1 q2 q3 q4 q5 => h ρ4 H4 d xs q1 (st0.trans q2) q3 q4 q5
  | ok ps S1 =>
    intro ρ4 H4 us hS4 st4 r4
    have e4 : H4 p = some (.dK []) := st4.keep p _ upd_same (hS0.prv p (.inr rfl)).2
    obtain ⟨ρ5, rfl, hv5, st5⟩ := st4.unhide hv
    refine ⟨e4, ?_⟩
    rw [R.bind_ok] at h
    cases ek : kvsD ps with
    | none => rw [ek] at h; exact h.elim
    | some kvs =>
      rw [ek] at h
      simp only at h
      split at h
      · rename_i hlen
        obtain ⟨ws, rfl, rw_⟩ := kvsD_ok r4 ek
        refine ⟨ws, rfl, by rw [← rw_.length]; exact hlen, ?_⟩
        have mkp : ∀ u, H4 p = some u → Mk u := fun u hu => by rw [e4] at hu; cases hu; trivial
        have pv5 : (ρ5.hide p).pv p := .inr rfl
        have hS6 : SOk X.K (ρ5.hide p) S1 (upd H4 p (.dK (mergeK [] ws))) := SOk.pupdO trivial hS4 pv5
        have ok6 : OOk X.K (ρ5.hide p) (upd H4 p (.dK (mergeK [] ws))) p (.dct (mergeD [] kvs)) := ⟨_, upd_same, KVs.pupd mkp pv5 _ _ (KVs.merge rw_ rfl)⟩
        obtain ⟨g1, g2⟩ := hidden_obj hS6 ok6 hv5
        have stA : Stp ρ ρ5 H (upd H4 p (.dK (mergeK [] ws))) := ((Stp.alloc hp).trans st5).putO hp
        exact h _ _ _ g1 (hid_st stA hp fun m a q => Nat.ne_of_lt (hS6.dom m a (stA.up m a q))) g2
      · exact h.elim
end
end Mi

namespace Mi
open PySem PySem.Spec PyProof.Rows L2
theorem bt_len : bootBuiltins "len" = some (.builtin "len") := by decide +kernel
theorem bt_abs : bootBuiltins "abs" = some (.builtin "abs") := by decide +kernel
theorem bt_max : bootBuiltins "max" = some (.builtin "max") := by decide +kernel
theorem bt_min : bootBuiltins "min" = some (.builtin "min") := by decide +kernel
theorem bt_all : bootBuiltins "all" = some (.builtin "all") := by decide +kernel
theorem bt_any : bootBuiltins "any" = some (.builtin "any") := by decide +kernel
theorem bt_sum : bootBuiltins "sum" = some (.builtin "sum") := by decide +kernel
theorem bt_isinstance : bootBuiltins "isinstance" = some (.builtin "isinstance") := by decide +kernel
theorem bt_int : bootBuiltins "int" = some (.type "int") := by decide +kernel
theorem bt_bool : bootBuiltins "bool" = some (.type "bool") := by decide +kernel
theorem bt_str : bootBuiltins "str" = some (.type "str") := by decide +kernel
theorem bt_list : bootBuiltins "list" = some (.type "list") := by decide +kernel
theorem bt_tuple : bootBuiltins "tuple" = some (.type "tuple") := by decide +kernel
theorem bt_dict : bootBuiltins "dict" = some (.type "dict") := by decide +kernel
theorem takesW0 {X : Cx} : Takes X W0 := fun _ _ ⟨_, _, _, _, _, _, _, _, _, _, _, _, _, _, _, _, w⟩ => w.elim
theorem b_bad {X : Cx} {W : WX} {sts : List Stmt} : DB X W sts sBad := ⟨PSs.imp pss_never fun T σ H ⟨ρ, S, env, hS, hE, h⟩ => h⟩
/-! ### the end: a law -/
def spNo (sp : Sp) : Sp := fun vs H Q _ => sp vs H Q fun _ _ _ => False
theorem no_exc {P : Program} {w : World} {K : PySem.W.Frag} {mg : Str → Option Value} {base : Heap} {k : Nat} {f : Addr} {fd : FuncData} {ps : List Str} {sp : Sp} (F : FnOk P w K mg base (L2.CX P w) k f fd ps sp) : FnOk P w K mg base CX0 k f fd ps (spNo sp) :=
  ⟨fun vs H Q E q => F.len _ _ _ _ q, fun A outer s H args us vs Q E hr he hb hv hs => codeAny_mono (F.run A outer s H args us vs Q _ hr he hb hv hs) fun r s' h => by
    cases r with
    | ok fl =>
      cases fl with
      | ret u => exact h
      | _ => exact h
    | error e =>
      obtain ⟨_, _, _, _, _, _, _, _, _, _, _, _, q⟩ := h
      exact q⟩
def rho0 : Rho := ⟨fun _ => none, fun _ => False⟩
theorem sok0 {K : PySem.W.Frag} {H : Hp} : SOk K rho0 [] H := ⟨fun n m a h _ => (by cases h), fun n a h => (by cases h), fun n o h => (by simp at h), fun a h => False.elim h⟩
theorem rps_ints {K : PySem.W.Frag} {H : Hp} : ∀ ns : List Int, Rps K rho0 H (ns.map D.int) (ns.map V.int)
  | [] => rfl
  | n :: ns => ⟨_, _, rfl, rfl, rps_ints ns⟩
theorem law_sp {K : PySem.W.Frag} {m : FM} (hm : ∀ ns : List Int, ns.length ≤ 63 → ∀ d, (d = D.lst (ns.map D.int) ∨ d = D.wls (ns.map D.int)) → ∃ S, m [d] [] = .ok (.bl true) S)
    (H : Hp) (a : Addr) (ns : List Int) (hl : ns.length ≤ 63) (hS : SqL K H a (ns.map V.int)) : spNo (spD K 1 m) [.ref a] H (fun v _ => v = .bl true) fun _ _ _ => False := by
  have key : ∀ d, (d = D.lst (ns.map D.int) ∨ d = D.wls (ns.map D.int)) → Rp K rho0 H d (.ref a) → spNo (spD K 1 m) [.ref a] H (fun v _ => v = .bl true) fun _ _ _ => False := by
    intro d hd r
    obtain ⟨S, e⟩ := hm ns hl d hd
    refine ⟨rho0, [], [d], rfl, sok0, ⟨_, _, rfl, r, rfl⟩, ?_⟩
    rw [e]
    exact fun ρ' H' v _ _ q => q
  rcases hS with (h | h) | h
  · exact key _ (.inl rfl) ⟨a, _, rfl, h, ⟨fun n z => (by cases z), fun z => z⟩, rps_ints ns⟩
  · exact key _ (.inr rfl) ⟨a, _, rfl, .inl h, rps_ints ns⟩
  · exact key _ (.inr rfl) ⟨a, _, rfl, .inr h, rps_ints ns⟩
theorem fdEq {K : PySem.W.Frag} {x qual : Str} {params : Arguments} {body : List Stmt} {scope : Scope} {dvs : List V} {kws : List (Str × V)} {f : Addr} {fd fd' : FuncData} (F : FunD K x qual params body scope dvs kws f fd) (F' : FunD K x qual params body scope dvs kws f fd') : fd = fd' := by
  obtain ⟨_, _, _, _, _, _, _, _, _, _, _, l1, _⟩ := F.ex
  obtain ⟨_, _, _, _, _, _, _, _, _, _, _, l2, _⟩ := F'.ex
  rw [l1] at l2
  cases l2
  rfl
end Mi

namespace Mi
open PySem PySem.Spec PyProof.Rows L2
/-! ### sizes, by instances -/
class Bd (i : Int) (n : outParam Nat) : Prop where
  h : Sm n i
instance bd_mul (i j : Int) (n m : Nat) [a : Bd i n] [b : Bd j m] : Bd (i * j) (n + m) := ⟨a.h.mul b.h⟩
instance bd_add (i j : Int) (n m : Nat) [a : Bd i n] [b : Bd j m] : Bd (i + j) (n + m + 1) := ⟨a.h.add b.h⟩
instance bd_sub (i j : Int) (n m : Nat) [a : Bd i n] [b : Bd j m] : Bd (i - j) (n + m + 1) := ⟨a.h.sub b.h⟩
instance bd_neg (i : Int) (n : Nat) [a : Bd i n] : Bd (-i) n := ⟨a.h.neg⟩
theorem Bd.up {i : Int} {n m : Nat} (a : Bd i n) (h : n ≤ m) : Bd i m := ⟨a.h.le h⟩
instance bd_ite (c : Prop) [Decidable c] (i j : Int) (n m : Nat) [a : Bd i n] [b : Bd j m] : Bd (if c then i else j) (n + m) := ⟨by
  split
  · exact a.h.le (by omega)
  · exact b.h.le (by omega)⟩
theorem bd_lt {i : Int} {n : Nat} (a : -(2 ^ n : Int) < i) (b : i < (2 ^ n : Int)) : Bd i n := ⟨by
  unfold Sm
  have : ((2 ^ n : Nat) : Int) = (2 : Int) ^ n := by simp
  omega⟩
theorem Bd.lo {i : Int} {n : Nat} (a : Bd i n) : -(2 ^ n : Int) < i := by
  have h := a.h
  unfold Sm at h
  have : ((2 ^ n : Nat) : Int) = (2 : Int) ^ n := by simp
  omega
theorem Bd.hi {i : Int} {n : Nat} (a : Bd i n) : i < (2 ^ n : Int) := by
  have h := a.h
  unfold Sm at h
  have : ((2 ^ n : Nat) : Int) = (2 : Int) ^ n := by simp
  omega
instance : Bd 0 64 := ⟨by unfold Sm; decide⟩
instance : Bd 1 64 := ⟨by unfold Sm; decide⟩
instance : Bd 2 64 := ⟨by unfold Sm; decide⟩
instance : Bd 3 64 := ⟨by unfold Sm; decide⟩
instance : Bd 10 64 := ⟨by unfold Sm; decide⟩
/-! ### operators at whole numbers -/
@[simp] theorem mulD_int {S : Sto} {i j : Int} {n m : Nat} [a : Bd i n] [b : Bd j m] (h1 : n ≤ 60000) (h2 : m ≤ 60000) : mulD S (.int i) (.int j) = some (.int (i * j)) := by
  unfold mulD
  exact if_pos ⟨a.h.le h1, b.h.le h2⟩
@[simp] theorem addD_int {S : Sto} {i j : Int} : addD S (.int i) (.int j) = some (.int (i + j)) := rfl
@[simp] theorem subD_int {S : Sto} {i j : Int} : subD S (.int i) (.int j) = some (.int (i - j)) := rfl
@[simp] theorem subD_bl {S : Sto} {i j : Bool} : subD S (.bl i) (.bl j) = some (.int (b2i i - b2i j)) := rfl
@[simp] theorem negD_int {S : Sto} {i : Int} : negD S (.int i) = some (.int (-i)) := rfl
theorem fdivD_int {S : Sto} {i j : Int} {m : Nat} [b : Bd j m] (h : m ≤ 8000) (hj : j ≠ 0) : fdivD S (.int i) (.int j) = some (.int (i.fdiv j)) := by
  unfold fdivD
  exact if_pos ⟨hj, b.h.le h⟩
theorem modD_int {S : Sto} {i j : Int} (hj : j ≠ 0) : modD S (.int i) (.int j) = some (.int (i.fmod j)) := by
  unfold modD
  exact if_pos hj
@[simp] theorem cmpD_int {f : Int → Int → Bool} {S : Sto} {i j : Int} : cmpD f S (.int i) (.int j) = some (.bl (f i j)) := rfl
@[simp] theorem powD_2 {S : Sto} {i : Int} {n : Nat} [a : Bd i n] (h : n ≤ 60000) : powD S (.int i) (.int 2) = some (.int (i * i)) := by
  unfold powD
  rw [show (i * i : Int) = i ^ (2 : Int).toNat by show i * i = i ^ 2; rw [Int.pow_succ, Int.pow_succ, Int.pow_zero, Int.one_mul]]
  exact if_pos ⟨by decide, by decide, a.h.le h⟩
@[simp] theorem powD_lit {S : Sto} {i j : Int} {n : Nat} [a : Bd i n] (h : n ≤ 60000) (h0 : 0 ≤ j) (h1 : j ≤ 100) : powD S (.int i) (.int j) = some (.int (i ^ j.toNat)) := if_pos ⟨h0, h1, a.h.le h⟩
theorem powD_c {S : Sto} {i j : Int} (h : 0 ≤ j ∧ j ≤ 100 ∧ Sm 60000 i) : powD S (.int i) (.int j) = some (.int (i ^ j.toNat)) := if_pos h
theorem shlD_c {S : Sto} {i j : Int} {n : Nat} [a : Bd i n] (h0 : 0 ≤ j) (h1 : j ≤ 10000) (h : n ≤ 60000) : shlD S (.int i) (.int j) = some (.int (i * 2 ^ j.toNat)) := if_pos ⟨h0, h1, a.h.le h⟩
@[simp] theorem mulD_tup {S : Sto} {l : List D} {j : Int} (h0 : l ≠ []) (h1 : 2 ≤ j) (h2 : j ≤ 1000) (h3 : l.length ≤ 1000) : mulD S (.tup l) (.int j) = some (.tup (List.replicate j.toNat l).flatten) := if_pos ⟨h0, h1, h2, h3⟩
@[simp] theorem addD_tup {S : Sto} {l m : List D} (h : l.length + m.length ≤ 16777216) : addD S (.tup l) (.tup m) = some (.tup (l ++ m)) := if_pos h
@[simp] theorem addD_lst {S : Sto} {l m : List D} (h : l.length + m.length ≤ 16777216) : addD S (.lst l) (.lst m) = some (.lst (l ++ m)) := if_pos h
@[simp] theorem isD_non {S : Sto} {a : D} : isD S a .non = some (.bl a.isNon) := rfl
@[simp] theorem isD_bl {S : Sto} {a : D} {c : Bool} : isD S a (.bl c) = some (.bl (a.isBl c)) := rfl
@[simp] theorem isnD_non {S : Sto} {a : D} : isnD S a .non = some (.bl !a.isNon) := rfl
def one1 : List D → Option Int
  | [.int j] => some j
  | _ => none
@[simp] theorem one1_int {j : Int} : one1 [.int j] = some j := rfl
def blD : D → Option Bool
  | .bl b => some b
  | _ => none
@[simp] theorem blD_bl {b : Bool} : blD (.bl b) = some b := rfl
/-! ### what a reading gives: one of these -/
def Ens {α : Type} (r : R α) (P : α → Sto → Prop) : Prop := match r with
  | .ok a S => P a S
  | _ => False
section
variable {α β : Type} {P : α → Sto → Prop} {Q : β → Sto → Prop} {Pd : D → Sto → Prop} {Pb : Bool → Sto → Prop} {Pl : List D → Sto → Prop} {env : En} {S : Sto}
@[simp] theorem Ens_ok {a : α} : Ens (R.ok a S) P ↔ P a S := Iff.rfl
@[simp] theorem Ens_bad : Ens (R.bad : R α) P ↔ False := Iff.rfl
@[simp] theorem Ens_bind {r : R α} {f : α → Sto → R β} : Ens (r.bind f) Q ↔ Ens r fun a S => Ens (f a S) Q := by cases r <;> exact Iff.rfl
@[simp] theorem Ens_ite {c : Prop} [Decidable c] {x y : R α} : Ens (if c then x else y) P ↔ (c → Ens x P) ∧ (¬ c → Ens y P) := by
  by_cases h : c
  · simp [h]
  · simp [h]
theorem Ens.mono {r : R α} {P' : α → Sto → Prop} (h : Ens r P) (k : ∀ a S, P a S → P' a S) : Ens r P' := by
  cases r with
  | ok a S => exact k a S h
  | exc C fs S => exact h
  | bad => exact h
theorem Ens.eq {r : R α} (h : Ens r P) : ∃ a S, r = .ok a S ∧ P a S := by
  cases r with
  | ok a S => exact ⟨a, S, rfl, h⟩
  | exc C fs S => exact h.elim
  | bad => exact h.elim
theorem Ens_is {r : R α} {a : α} (e : r = .ok a S) : Ens r P ↔ P a S := by rw [e]; exact Iff.rfl
theorem ens_eq {r : R α} {a : α} (h : Ens r fun b T => b = a ∧ T = S) : r = .ok a S := by
  cases r with
  | ok b T => obtain ⟨rfl, rfl⟩ := h; rfl
  | exc C fs S => exact h.elim
  | bad => exact h.elim
@[simp] theorem mVar_zero {d : D} {e : En} : mVar 0 (some d :: e) S = .ok d S := rfl
@[simp] theorem mVar_succ {n : Nat} {d : Option D} {e : En} : mVar (n + 1) (d :: e) S = mVar n e S := rfl
@[simp] theorem mC_ok {d : D} : mC d env S = .ok d S := rfl
@[simp] theorem Ens_mOp {g : G2} {ma mb : TM} : Ens (mOp g ma mb env S) Pd ↔ Ens (ma env S) fun a S1 => Ens (mb env S1) fun b S2 => Ens (R.of (g S2 a b) S2) Pd := by unfold mOp; simp
@[simp] theorem Ens_mUn {g : G1} {ma : TM} : Ens (mUn g ma env S) Pd ↔ Ens (ma env S) fun a S1 => Ens (R.of (g S1 a) S1) Pd := by unfold mUn; simp
@[simp] theorem Ens_mTup {n : AM} : Ens (mTup n env S) Pd ↔ Ens (n env S) fun l S1 => l.length ≤ 16777216 ∧ Pd (.tup l) S1 := by
  unfold mTup
  simp only [Ens_bind, Ens_ite, Ens_ok, Ens_bad]
  constructor
  · intro h
    refine h.mono fun a S h => ?_
    by_cases hl : a.length ≤ 16777216
    · exact ⟨hl, h.1 hl⟩
    · exact (h.2 hl).elim
  · exact fun h => h.mono fun a S h => ⟨fun _ => h.2, fun z => z h.1⟩
@[simp] theorem Ens_mLst {n : AM} : Ens (mLst n env S) Pd ↔ Ens (n env S) fun l S1 => l.length ≤ 16777216 ∧ Pd (.lst l) S1 := by
  unfold mLst
  simp only [Ens_bind, Ens_ite, Ens_ok, Ens_bad]
  constructor
  · intro h
    refine h.mono fun a S h => ?_
    by_cases hl : a.length ≤ 16777216
    · exact ⟨hl, h.1 hl⟩
    · exact (h.2 hl).elim
  · exact fun h => h.mono fun a S h => ⟨fun _ => h.2, fun z => z h.1⟩
@[simp] theorem Ens_new {o : O} : Ens (R.new o S) Pd ↔ Pd (.loc S.length) (S ++ [o]) := Iff.rfl
@[simp] theorem Ens_mNew {n : AM} : Ens (mNew n env S) Pd ↔ Ens (n env S) fun l S1 => l.length ≤ 16777216 ∧ Pd (.loc S1.length) (S1 ++ [.lst l]) := by
  unfold mNew
  simp only [Ens_bind, Ens_ite, Ens_new, Ens_bad]
  constructor
  · intro h
    refine h.mono fun a S h => ?_
    by_cases hl : a.length ≤ 16777216
    · exact ⟨hl, h.1 hl⟩
    · exact (h.2 hl).elim
  · exact fun h => h.mono fun a S h => ⟨fun _ => h.2, fun z => z h.1⟩
@[simp] theorem Ens_aNil : Ens (aNil env S) Pl ↔ Pl [] S := Iff.rfl
@[simp] theorem Ens_aCons {m : TM} {n : AM} : Ens (aCons m n env S) Pl ↔ Ens (m env S) fun a S1 => Ens (n env S1) fun l S2 => Pl (a :: l) S2 := by unfold aCons; simp
@[simp] theorem Ens_mCall {np : Nat} {m : FM} {n : AM} : Ens (mCall np m n env S) Pd ↔ Ens (n env S) fun ds S1 => if ds.length = np then Ens (m ds S1) Pd else False := by
  unfold mCall
  simp only [Ens_bind]
  constructor <;> exact fun h => h.mono fun a S h => by
    by_cases q : a.length = np
    · rw [if_pos q] at *; exact h
    · rw [if_neg q] at *; exact h
@[simp] theorem Ens_mCallK {np n1 n2 : Nat} {idx : List Nat} {m : FM} {n nk : AM} : Ens (mCallK np n1 n2 idx m n nk env S) Pd ↔ Ens (n env S) fun ds S1 => Ens (nk env S1) fun es S2 => if ds.length = n1 ∧ es.length = n2 then Ens (m (gPerm idx ds es) S2) Pd else False := by
  unfold mCallK
  simp only [Ens_bind]
  constructor <;> exact fun h => h.mono fun a S h => h.mono fun b S h => by
    by_cases q : a.length = n1 ∧ b.length = n2
    · rw [if_pos q] at *; exact h
    · rw [if_neg q] at *; exact h
@[simp] theorem gPerm_nil {α : Type} {us ws : List α} : gPerm [] us ws = [] := rfl
@[simp] theorem gPerm_cons {α : Type} {i : Nat} {idx : List Nat} {us ws : List α} : gPerm (i :: idx) us ws = ((us ++ ws)[i]?).toList ++ gPerm idx us ws := by
  unfold gPerm
  rw [List.filterMap_cons]
  cases (us ++ ws)[i]? <;> rfl
@[simp] theorem Ens_mB {g : GL} {n : AM} : Ens (mB g n env S) Pd ↔ Ens (n env S) fun ds S1 => Ens (R.of (g S1 ds) S1) Pd := by unfold mB; simp
@[simp] theorem Ens_oNone {Po : Option Int → Sto → Prop} : Ens (oNone env S) Po ↔ Po none S := Iff.rfl
@[simp] theorem Ens_oSome {m : TM} {Po : Option Int → Sto → Prop} : Ens (oSome m env S) Po ↔ Ens (m env S) fun a S1 => Ens (R.of (intD a) S1) fun i S2 => Po (some i) S2 := by
  unfold oSome
  simp only [Ens_bind]
  constructor <;> exact fun h => h.mono fun a S h => by cases a <;> exact h
@[simp] theorem intD_int {i : Int} : intD (.int i) = some i := rfl
@[simp] theorem Ens_mSl {m : TM} {lo hi : En → Sto → R (Option Int)} : Ens (mSl m lo hi env S) Pd ↔ Ens (m env S) fun a S1 => Ens (lo env S1) fun l S2 => Ens (hi env S2) fun u S3 => Ens (R.of (slD S3 a l u) S3) Pd := by unfold mSl; simp
@[simp] theorem Ens_mRev {m : TM} : Ens (mRev m env S) Pd ↔ Ens (m env S) fun d S1 => Ens (R.of (revD S1 d) S1) fun l S2 => Pd (.lst l) S2 := by
  unfold mRev
  simp only [Ens_bind]
  constructor <;> exact fun h => h.mono fun a S h => by
    revert h
    cases revD S a <;> exact id
@[simp] theorem Ens_mRevN {m : TM} : Ens (mRevN m env S) Pd ↔ Ens (m env S) fun d S1 => Ens (R.of (revD S1 d) S1) fun l S2 => Pd (.loc S2.length) (S2 ++ [.lst l]) := by
  unfold mRevN
  simp only [Ens_bind]
  constructor <;> exact fun h => h.mono fun a S h => by
    revert h
    cases revD S a <;> exact id
@[simp] theorem Ens_mChain {g g' : G2} {ma mb mc : TM} : Ens (mChain g g' ma mb mc env S) Pd ↔ Ens (ma env S) fun a S1 => Ens (mb env S1) fun b S2 => Ens (R.of ((g S2 a b).bind blD) S2) fun t S3 => (t = true → Ens (mc env S3) fun c S4 => Ens (R.of (g' S4 b c) S4) Pd) ∧ (t = false → Pd (.bl false) S3) := by
  unfold mChain
  simp only [Ens_bind]
  constructor <;> exact fun h => h.mono fun a S h => h.mono fun b S h => by
    revert h
    cases g S a b with
    | none => exact id
    | some d =>
      cases d with
      | bl b =>
        intro h
        cases b <;> simpa [blD] using h
      | _ => exact id
/-! tests -/
@[simp] theorem Ens_bVal {m : TM} : Ens (bVal m env S) Pb ↔ Ens (m env S) fun a S1 => Ens (R.of (blD a) S1) Pb := by
  unfold bVal
  simp only [Ens_bind]
  constructor <;> exact fun h => h.mono fun a S h => by cases a <;> exact h
@[simp] theorem Ens_bAnd {m n : BM} : Ens (bAnd m n env S) Pb ↔ Ens (m env S) fun a S1 => (a = true → Ens (n env S1) Pb) ∧ (a = false → Pb false S1) := by
  unfold bAnd
  simp
@[simp] theorem Ens_bOr {m n : BM} : Ens (bOr m n env S) Pb ↔ Ens (m env S) fun a S1 => (a = true → Pb true S1) ∧ (a = false → Ens (n env S1) Pb) := by
  unfold bOr
  simp
@[simp] theorem Ens_bNot {m : BM} : Ens (bNot m env S) Pb ↔ Ens (m env S) fun a S1 => Pb (!a) S1 := by
  unfold bNot
  simp
@[simp] theorem Ens_bYes : Ens (bYes env S) Pb ↔ Pb true S := Iff.rfl
@[simp] theorem Ens_mIf {t : BM} {m n : TM} : Ens (mIf t m n env S) Pd ↔ Ens (t env S) fun a S1 => (a = true → Ens (m env S1) Pd) ∧ (a = false → Ens (n env S1) Pd) := by
  unfold mIf
  simp
@[simp] theorem Ens_mNot {m : TM} : Ens (mNot m env S) Pd ↔ Ens (m env S) fun a S1 => Ens (R.of (blD a) S1) fun b S2 => Pd (.bl !b) S2 := by
  unfold mNot
  simp only [Ens_bind]
  constructor <;> exact fun h => h.mono fun a S h => by cases a <;> exact h
@[simp] theorem Ens_mAnd {m n : TM} : Ens (mAnd m n env S) Pd ↔ Ens (m env S) fun a S1 => Ens (R.of (blD a) S1) fun b S2 => (b = true → Ens (n env S2) Pd) ∧ (b = false → Pd (.bl false) S2) := by
  unfold mAnd
  simp only [Ens_bind]
  constructor <;> exact fun h => h.mono fun a S h => by
    cases a with
    | bl b => cases b <;> simpa [blD] using h
    | _ => exact h
@[simp] theorem Ens_mOr {m n : TM} : Ens (mOr m n env S) Pd ↔ Ens (m env S) fun a S1 => Ens (R.of (blD a) S1) fun b S2 => (b = true → Pd (.bl true) S2) ∧ (b = false → Ens (n env S2) Pd) := by
  unfold mOr
  simp only [Ens_bind]
  constructor <;> exact fun h => h.mono fun a S h => by
    cases a with
    | bl b => cases b <;> simpa [blD] using h
    | _ => exact h
end
/-! ### statements -/
def EnsS (r : RS) (P : RS → Prop) : Prop := match r with
  | .exc _ _ _ _ => False
  | .bad => False
  | r => P r
section
variable {α : Type} {P : RS → Prop} {env : En} {S : Sto}
@[simp] theorem EnsS_nx : EnsS (.nx env S) P ↔ P (.nx env S) := Iff.rfl
@[simp] theorem EnsS_rt {d : D} : EnsS (.rt d S) P ↔ P (.rt d S) := Iff.rfl
@[simp] theorem EnsS_bk : EnsS (.bk env S) P ↔ P (.bk env S) := Iff.rfl
@[simp] theorem EnsS_ct : EnsS (.ct env S) P ↔ P (.ct env S) := Iff.rfl
@[simp] theorem EnsS_bad : EnsS .bad P ↔ False := Iff.rfl
@[simp] theorem EnsS_ite {c : Prop} [Decidable c] {x y : RS} : EnsS (if c then x else y) P ↔ (c → EnsS x P) ∧ (¬ c → EnsS y P) := by
  by_cases h : c
  · simp [h]
  · simp [h]
theorem EnsS.mono {r : RS} {P' : RS → Prop} (h : EnsS r P) (k : ∀ r, P r → P' r) : EnsS r P' := by
  cases r with
  | nx env S => exact k _ h
  | rt d S => exact k _ h
  | bk env S => exact k _ h
  | ct env S => exact k _ h
  | exc C fs env S => exact h
  | bad => exact h
@[simp] theorem EnsS_of {r : R α} {f : α → Sto → RS} : EnsS (RS.of r env f) P ↔ Ens r fun a S => EnsS (f a S) P := by cases r <;> exact Iff.rfl
def RS.then (P : RS → Prop) (n : SM) (r : RS) : Prop := match r with
  | .nx env S => EnsS (n env S) P
  | r => P r
@[simp] theorem then_nx {n : SM} : RS.then P n (.nx env S) ↔ EnsS (n env S) P := Iff.rfl
@[simp] theorem then_rt {n : SM} {d : D} : RS.then P n (.rt d S) ↔ P (.rt d S) := Iff.rfl
@[simp] theorem then_bk {n : SM} : RS.then P n (.bk env S) ↔ P (.bk env S) := Iff.rfl
@[simp] theorem then_ct {n : SM} : RS.then P n (.ct env S) ↔ P (.ct env S) := Iff.rfl
@[simp] theorem EnsS_sSeq {m n : SM} : EnsS (sSeq m n env S) P ↔ EnsS (m env S) (RS.then P n) := by
  unfold sSeq
  cases m env S <;> exact Iff.rfl
@[simp] theorem EnsS_sNil : EnsS (sNil env S) P ↔ P (.nx env S) := Iff.rfl
@[simp] theorem EnsS_sBk : EnsS (sBk env S) P ↔ P (.bk env S) := Iff.rfl
@[simp] theorem EnsS_sCt : EnsS (sCt env S) P ↔ P (.ct env S) := Iff.rfl
@[simp] theorem EnsS_sRetN : EnsS (sRetN env S) P ↔ P (.rt .non S) := Iff.rfl
@[simp] theorem EnsS_sBad : EnsS (sBad env S) P ↔ False := Iff.rfl
@[simp] theorem EnsS_sRet {m : TM} : EnsS (sRet m env S) P ↔ Ens (m env S) fun d S1 => P (.rt d S1) := by unfold sRet; simp
@[simp] theorem EnsS_sDrop {m : TM} : EnsS (sDrop m env S) P ↔ Ens (m env S) fun d S1 => P (.nx env S1) := by unfold sDrop; simp
@[simp] theorem EnsS_sIf {t : BM} {m n : SM} : EnsS (sIf t m n env S) P ↔ Ens (t env S) fun a S1 => (a = true → EnsS (m env S1) P) ∧ (a = false → EnsS (n env S1) P) := by unfold sIf; simp
/-- a target that takes what it is given -/
@[simp] theorem EnsS_sAsg {m : TM} {g : GM} : EnsS (sAsg m g env S) P ↔ Ens (m env S) fun d S1 => Ens (g d env S1) fun env' S' => P (.nx env' S') := by
  unfold sAsg
  simp only [EnsS_of]
  constructor <;> exact fun h => h.mono fun a S h => by
    revert h
    cases g a env S <;> exact id
@[simp] theorem EnsS_sPar {is : List Nat} {n : AM} : EnsS (sPar is n env S) P ↔ Ens (n env S) fun l S1 => if l.length = is.length then P (.nx ((is.zip l).foldl (fun en p => en.set p.1 (some p.2)) env) S1) else False := by
  unfold sPar
  simp only [EnsS_of]
  constructor <;> exact fun h => h.mono fun a S h => by
    by_cases q : a.length = is.length
    · rw [if_pos q] at *; exact h
    · rw [if_neg q] at *; exact h
def endP (P : D → Sto → Prop) (r : RS) : Prop := match r with
  | .nx _ S => P .non S
  | .rt d S => P d S
  | _ => False
section
variable {Pd : D → Sto → Prop}
@[simp] theorem endP_nx : endP Pd (.nx env S) ↔ Pd .non S := Iff.rfl
@[simp] theorem endP_rt {d : D} : endP Pd (.rt d S) ↔ Pd d S := Iff.rfl
@[simp] theorem endP_bk : endP Pd (.bk env S) ↔ False := Iff.rfl
@[simp] theorem endP_ct : endP Pd (.ct env S) ↔ False := Iff.rfl
@[simp] theorem Ens_fnP {n : Nat} {b : SM} {ds : List D} : Ens (fnP n b ds S) Pd ↔ EnsS (b (startE n ds) S) (endP Pd) := by
  unfold fnP
  cases b (startE n ds) S <;> exact Iff.rfl
end
variable {Pe : En → Sto → Prop} {d : D}
@[simp] theorem gN_ok {i : Nat} : gN i d env S = .ok (env.set i (some d)) S := rfl
@[simp] theorem Ens_gT {gs : List GM} : Ens (gT gs d env S) Pe ↔ Ens (R.of (seqD S d) S) fun l S1 => Ens (gT.go gs l env S1) Pe := by
  unfold gT
  cases seqD S d <;> exact Iff.rfl
@[simp] theorem go_nil : gT.go [] [] env S = .ok env S := rfl
@[simp] theorem Ens_go {g : GM} {gs : List GM} {ds : List D} : Ens (gT.go (g :: gs) (d :: ds) env S) Pe ↔ Ens (g d env S) fun env1 S1 => Ens (gT.go gs ds env1 S1) Pe := by
  show Ens ((g d env S).bind fun env1 S1 => gT.go gs ds env1 S1) Pe ↔ _
  simp
@[simp] theorem Ens_gSet {mo mi : TM} : Ens (gSet mo mi d env S) Pe ↔ Ens (mo env S) fun o S1 => Ens (mi env S1) fun i S2 => Ens (R.of (setD S2 o i d) S2) fun S3 _ => Pe env S3 := by
  unfold gSet
  simp only [Ens_bind]
  constructor <;> exact fun h => h.mono fun a S h => h.mono fun b S h => by
    revert h
    cases setD S a b d <;> exact id
/-! methods -/
@[simp] theorem Ens_mM {T : String} {g : GMt} {m : TM} {n : AM} {Pd : D → Sto → Prop} : Ens (mM T g m n env S) Pd ↔ Ens (m env S) fun o S1 => isT S1 T o = true ∧ Ens (n env S1) fun ds S2 => Ens (R.of (g S2 o ds) S2) fun z _ => Pd z.1 z.2 := by
  unfold mM
  simp only [Ens_bind]
  constructor
  · intro h
    refine h.mono fun a S h => ?_
    by_cases q : isT S T a = true
    · rw [if_pos q] at h
      simp only [Ens_bind] at h
      refine ⟨q, h.mono fun b S h => ?_⟩
      revert h
      cases g S a b <;> exact id
    · rw [if_neg q] at h; exact h.elim
  · intro h
    refine h.mono fun a S h => ?_
    rw [if_pos h.1]
    simp only [Ens_bind]
    refine h.2.mono fun b S h => ?_
    revert h
    cases g S a b <;> exact id
/-! loops -/
def loopP (P : RS → Prop) (k : En → Sto → Prop) (r : RS) : Prop := match r with
  | .nx env S => k env S
  | .ct env S => k env S
  | .bk env S => P (.nx env S)
  | r => P r
@[simp] theorem loopP_nx {k : En → Sto → Prop} : loopP P k (.nx env S) ↔ k env S := Iff.rfl
@[simp] theorem loopP_ct {k : En → Sto → Prop} : loopP P k (.ct env S) ↔ k env S := Iff.rfl
@[simp] theorem loopP_bk {k : En → Sto → Prop} : loopP P k (.bk env S) ↔ P (.nx env S) := Iff.rfl
@[simp] theorem loopP_rt {k : En → Sto → Prop} : loopP P k (.rt d S) ↔ P (.rt d S) := Iff.rfl
theorem EnsS_for_nil {g : GM} {body : SM} {gd : Sto → Prop} : EnsS (forD g body gd [] env S) P ↔ gd S ∧ P (.nx env S) := by
  unfold forD
  by_cases h : gd S <;> simp [h]
theorem EnsS_for_cons {g : GM} {body : SM} {gd : Sto → Prop} {ds : List D} : EnsS (forD g body gd (d :: ds) env S) P ↔ gd S ∧ Ens (g d env S) fun env1 S1 => EnsS (body env1 S1) (loopP P fun env2 S2 => EnsS (forD g body gd ds env2 S2) P) := by
  rw [forD]
  by_cases h : gd S
  · simp only [h, if_true, true_and]
    cases g d env S with
    | ok env1 S1 =>
      simp only [Ens_ok]
      cases body env1 S1 <;> exact Iff.rfl
    | exc C fs S1 => exact Iff.rfl
    | bad => exact Iff.rfl
  · simp [h]
@[simp] theorem EnsS_sFor {i : IM} {g : GM} {body : SM} : EnsS (sFor i g body env S) P ↔ Ens (i env S) fun p S1 => EnsS (forD g body p.2 p.1 env S1) P := by unfold sFor; simp
/-- a loop with an invariant -/
theorem for_inv {g : GM} {body : SM} {gd : Sto → Prop} (Inv : Nat → En → Sto → Prop) : ∀ (ds : List D) (k : Nat) (env : En) (S : Sto), Inv k env S →
    (∀ i env S, k ≤ i → i ≤ k + ds.length → Inv i env S → gd S) →
    (∀ i d env S, k ≤ i → ds[i - k]? = some d → Inv i env S → Ens (g d env S) fun env1 S1 => EnsS (body env1 S1) (loopP P (Inv (i + 1)))) →
    (∀ env S, Inv (k + ds.length) env S → P (.nx env S)) → EnsS (forD g body gd ds env S) P
  | [], k, env, S, h0, hg, hs, he => EnsS_for_nil.mpr ⟨hg k env S (Nat.le_refl _) (by simp) h0, he env S h0⟩
  | d :: ds, k, env, S, h0, hg, hs, he => EnsS_for_cons.mpr ⟨hg k env S (Nat.le_refl _) (by simp) h0, (hs k d env S (Nat.le_refl _) (by simp) h0).mono fun env1 S1 h1 => h1.mono fun r h2 => by
      have key : ∀ env2 S2, Inv (k + 1) env2 S2 → EnsS (forD g body gd ds env2 S2) P := fun env2 S2 h3 =>
        for_inv Inv ds (k + 1) env2 S2 h3 (fun i env S h4 h5 h6 => hg i env S (by omega) (by simp; omega) h6)
          (fun i e env S h4 h5 h6 => hs i e env S (by omega) (by
            have : i - k = (i - (k + 1)) + 1 := by omega
            rw [this, List.getElem?_cons_succ]; exact h5) h6) (fun env S h4 => he env S (by
            have : k + (d :: ds).length = k + 1 + ds.length := by simp; omega
            rw [this]; exact h4))
      cases r with
      | nx env2 S2 => exact key env2 S2 h2
      | ct env2 S2 => exact key env2 S2 h2
      | bk env2 S2 => exact h2
      | rt d2 S2 => exact h2
      | exc C fs env2 S2 => exact h2
      | bad => exact h2⟩
/-! while -/
theorem EnsS_while {c : BM} {body : SM} : EnsS (sWhile c body env S) P ↔ Ens (c env S) fun b S1 => (b = true → EnsS (body env S1) (loopP P fun env2 S2 => EnsS (sWhile c body env2 S2) P)) ∧ (b = false → P (.nx env S1)) := by
  rw [sWhile_unfold]
  simp only [EnsS_of]
  constructor <;> exact fun h => h.mono fun a S h => by
    cases a with
    | false => simpa using h
    | true =>
      simp only [if_true] at h ⊢
      first
        | refine ⟨fun _ => ?_, fun z => by cases z⟩
          revert h
          cases body env S <;> exact id
        | have h := h.1 trivial
          revert h
          cases body env S <;> exact id
/-! comprehensions -/
variable {Pl : List D → Sto → Prop} {Pd : D → Sto → Prop} {g : GM} {tt : BM} {te : TM} {gd : Sto → Prop} {acc : List D} {ds : List D}
theorem Ens_lc_nil : Ens (lcD g tt te gd env [] S acc) Pl ↔ gd S ∧ Pl acc S := by
  rw [lcD]
  by_cases h : gd S <;> simp [h]
theorem Ens_lc_cons : Ens (lcD g tt te gd env (d :: ds) S acc) Pl ↔ gd S ∧ Ens (g d env S) fun env1 S1 => Ens (tt env1 S1) fun b S2 =>
    (b = true → Ens (te env1 S2) fun y S3 => acc.length < 16777216 ∧ Ens (lcD g tt te gd env ds S3 (acc ++ [y])) Pl) ∧ (b = false → Ens (lcD g tt te gd env ds S2 acc) Pl) := by
  rw [lcD]
  by_cases h : gd S
  · simp only [h, if_true, true_and]
    cases g d env S with
    | bad => exact Iff.rfl
    | exc C fs S1 => exact Iff.rfl
    | ok env1 S1 =>
      simp only [Ens_ok]
      cases tt env1 S1 with
      | bad => exact Iff.rfl
      | exc C fs S1 => exact Iff.rfl
      | ok b S2 =>
        simp only [Ens_ok]
        cases b with
        | false => simp
        | true =>
          simp only [if_true]
          cases te env1 S2 with
          | bad => simp
          | exc C fs S1 => simp [Ens]
          | ok y S3 =>
            simp only [Ens_ok, Ens_ite, Ens_bad]
            by_cases q : acc.length < 16777216 <;> simp [q]
  · simp [h]
@[simp] theorem Ens_mLc {i : IM} {vs : List Nat} : Ens (mLc i g tt te vs env S) Pd ↔ Ens (i env S) fun p S1 => Ens (lcD g tt te p.2 (wipeE env vs) p.1 S1 []) fun l S2 => Pd (.lst l) S2 := by unfold mLc; simp
@[simp] theorem Ens_mLcN {i : IM} {vs : List Nat} : Ens (mLcN i g tt te vs env S) Pd ↔ Ens (i env S) fun p S1 => Ens (lcD g tt te p.2 (wipeE env vs) p.1 S1 []) fun l S2 => Pd (.loc S2.length) (S2 ++ [.lst l]) := by unfold mLcN; simp
/-- a comprehension with an invariant -/
theorem lc_inv (Inv : Nat → List D → Sto → Prop) : ∀ (ds : List D) (k : Nat) (acc : List D) (S : Sto), Inv k acc S →
    (∀ i acc S, k ≤ i → i ≤ k + ds.length → Inv i acc S → gd S) →
    (∀ i d acc S, k ≤ i → ds[i - k]? = some d → Inv i acc S → Ens (g d env S) fun env1 S1 => Ens (tt env1 S1) fun b S2 => (b = true → Ens (te env1 S2) fun y S3 => acc.length < 16777216 ∧ Inv (i + 1) (acc ++ [y]) S3) ∧ (b = false → Inv (i + 1) acc S2)) →
    (∀ acc S, Inv (k + ds.length) acc S → Pl acc S) → Ens (lcD g tt te gd env ds S acc) Pl
  | [], k, acc, S, h0, hg, hs, he => Ens_lc_nil.mpr ⟨hg k acc S (Nat.le_refl _) (by simp) h0, he acc S h0⟩
  | d :: ds, k, acc, S, h0, hg, hs, he => Ens_lc_cons.mpr ⟨hg k acc S (Nat.le_refl _) (by simp) h0, (hs k d acc S (Nat.le_refl _) (by simp) h0).mono fun env1 S1 h1 => h1.mono fun b S2 h2 => by
      have key : ∀ acc S, Inv (k + 1) acc S → Ens (lcD g tt te gd env ds S acc) Pl := fun acc S h3 =>
        lc_inv Inv ds (k + 1) acc S h3 (fun i acc S h4 h5 h6 => hg i acc S (by omega) (by simp; omega) h6)
          (fun i e acc S h4 h5 h6 => hs i e acc S (by omega) (by
            have : i - k = (i - (k + 1)) + 1 := by omega
            rw [this, List.getElem?_cons_succ]; exact h5) h6) (fun acc S h4 => he acc S (by
            have : k + (d :: ds).length = k + 1 + ds.length := by simp; omega
            rw [this]; exact h4))
      exact ⟨fun e => (h2.1 e).mono fun y S3 h3 => ⟨h3.1, key _ _ h3.2⟩, fun e => key _ _ (h2.2 e)⟩⟩
/-! dict displays -/
section
variable {Pp : List (D × D) → Sto → Prop} {n : PM} {mk mv : TM}
@[simp] theorem Ens_pNil : Ens (pNil env S) Pp ↔ Pp [] S := Iff.rfl
@[simp] theorem Ens_pCons : Ens (pCons mk mv n env S) Pp ↔ Ens (mk env S) fun a S1 => Ens (mv env S1) fun b S2 => Ens (n env S2) fun l S3 => Pp ((a, b) :: l) S3 := by unfold pCons; simp
@[simp] theorem Ens_mDict : Ens (mDict n env S) Pd ↔ Ens (n env S) fun ps S1 => Ens (R.of (kvsD ps) S1) fun kvs S2 => kvs.length ≤ 15 ∧ Pd (.loc S2.length) (S2 ++ [.dct (mergeD [] kvs)]) := by
  unfold mDict
  simp only [Ens_bind]
  constructor <;> exact fun h => h.mono fun a S h => by
    revert h
    cases kvsD a with
    | none => exact id
    | some kvs => by_cases q : kvs.length ≤ 15 <;> simp [q]
end
/-! what is walked -/
variable {Pi : List D × (Sto → Prop) → Sto → Prop} {n : AM} {m : TM}
@[simp] theorem Ens_iSeq : Ens (iSeq m env S) Pi ↔ Ens (m env S) fun d S1 => Ens (R.of (seqD S1 d) S1) fun l S2 => Pi (l, gdSeq d l) S2 := by
  unfold iSeq
  simp only [Ens_bind]
  constructor <;> exact fun h => h.mono fun a S h => by
    revert h
    cases seqD S a <;> exact id
@[simp] theorem gdSeq_tup {l : List D} : gdSeq (.tup l) ds S ↔ True := Iff.rfl
@[simp] theorem gdSeq_lst {l : List D} : gdSeq (.lst l) ds S ↔ True := Iff.rfl
@[simp] theorem gdSeq_wls {l : List D} : gdSeq (.wls l) ds S ↔ True := Iff.rfl
@[simp] theorem gdSeq_loc {n : Nat} : gdSeq (.loc n) ds S ↔ seqD S (.loc n) = some ds := Iff.rfl
@[simp] theorem Ens_iRng1 : Ens (iRng1 n env S) Pi ↔ Ens (n env S) fun l S1 => Ens (R.of (one1 l) S1) fun j S2 => (-1000000000 ≤ j ∧ j ≤ 1000000000) ∧ Pi (rangeD 0 j.toNat, fun _ => True) S2 := by
  unfold iRng1
  simp only [Ens_bind]
  constructor <;> exact fun h => h.mono fun a S h => by
    revert h
    rcases a with _ | ⟨d, _ | ⟨e, r⟩⟩
    · exact id
    · cases d with
      | int j =>
        by_cases q : -1000000000 ≤ j ∧ j ≤ 1000000000
        · simp [q, one1]
        · simp [q, one1]
      | _ => exact id
    · cases d <;> exact id
def zipR (ds : List D) (S1 : Sto) : R (List D × (Sto → Prop)) := match ds with
  | [.tup l, .tup m] => .ok (zipD l m, fun _ => True) S1
  | [a, b] => match lstD S1 a, lstD S1 b with
    | some l, some m => .ok (zipD l m, fun S => gdSeq a l S ∧ gdSeq b m S) S1
    | _, _ => .bad
  | _ => .bad
@[simp] theorem zipR_tup {l m : List D} : zipR [.tup l, .tup m] S = .ok (zipD l m, fun _ => True) S := rfl
@[simp] theorem Ens_iZipD : Ens (iZipD n env S) Pi ↔ Ens (n env S) fun l S1 => Ens (zipR l S1) Pi := by
  show Ens ((n env S).bind zipR) Pi ↔ _
  simp
@[simp] theorem seqD_tup {l : List D} : seqD S (.tup l) = some l := rfl
@[simp] theorem seqD_lst {l : List D} : seqD S (.lst l) = some l := rfl
@[simp] theorem seqD_wls {l : List D} : seqD S (.wls l) = some l := rfl
@[simp] theorem lstD_lst {l : List D} : lstD S (.lst l) = some l := rfl
@[simp] theorem lstD_wls {l : List D} : lstD S (.wls l) = some l := rfl
@[simp] theorem slD_tup {l : List D} {lo hi : Option Int} : slD S (.tup l) lo hi = some (.tup (cutD l lo hi)) := rfl
@[simp] theorem slD_lst {l : List D} {lo hi : Option Int} : slD S (.lst l) lo hi = some (.lst (cutD l lo hi)) := rfl
@[simp] theorem slD_wls {l : List D} {lo hi : Option Int} : slD S (.wls l) lo hi = some (.lst (cutD l lo hi)) := rfl
@[simp] theorem ixD_tup {l : List D} {i : Int} : ixD S (.tup l) (.int i) = L2.atI l i := rfl
@[simp] theorem ixD_lst {l : List D} {i : Int} : ixD S (.lst l) (.int i) = L2.atI l i := rfl
@[simp] theorem lenD_tup {l : List D} : lenD S [.tup l] = some (.int l.length) := rfl
@[simp] theorem lenD_lst {l : List D} : lenD S [.lst l] = some (.int l.length) := rfl
@[simp] theorem absD_int {i : Int} : absD S [.int i] = some (.int (if i < 0 then -i else i)) := rfl
@[simp] theorem max2D_int {i j : Int} : max2D S [.int i, .int j] = some (.int (if j > i then j else i)) := rfl
@[simp] theorem min2D_int {i j : Int} : min2D S [.int i, .int j] = some (.int (if j < i then j else i)) := rfl
@[simp] theorem intfD_int {i : Int} : intfD S [.int i] = some (.int i) := rfl
@[simp] theorem tupleD_lst {l : List D} : tupleD S [.lst l] = some (.tup l) := rfl
@[simp] theorem atI_0 {a : D} {l : List D} : L2.atI (a :: l) 0 = some a := by simp [L2.atI, L2.ixN]
@[simp] theorem atI_1 {a b : D} {l : List D} : L2.atI (a :: b :: l) 1 = some b := by
  have : (1 : Int) < (l.length : Int) + 1 + 1 := by omega
  simp [L2.atI, L2.ixN, this]
@[simp] theorem atI_2 {a b c : D} {l : List D} : L2.atI (a :: b :: c :: l) 2 = some c := by
  have : (2 : Int) < (l.length : Int) + 1 + 1 + 1 := by omega
  simp [L2.atI, L2.ixN, this]
@[simp] theorem atI_3 {a b c d : D} {l : List D} : L2.atI (a :: b :: c :: d :: l) 3 = some d := by
  have : (3 : Int) < (l.length : Int) + 1 + 1 + 1 + 1 := by omega
  simp [L2.atI, L2.ixN, this]
theorem atI_nat {l : List D} {i : Int} (h0 : 0 ≤ i) (h1 : i < l.length) : ∃ d, L2.atI l i = some d ∧ l[i.toNat]? = some d := by
  have h : i.toNat < l.length := by omega
  refine ⟨l[i.toNat], ?_, by simp [h]⟩
  unfold L2.atI L2.ixN
  simp [h0, h1, h]
end
end Mi

namespace Mi
open PySem PySem.Spec PyProof.Rows L2
/-! ### equality of plain data -/
@[simp] theorem eqD_int {S : Sto} {i j : Int} : eqD S (.int i) (.int j) = some (.bl (decide (i = j))) := by
  simp only [eqD, der, D.py, SeqAt.shaped, PyData.canLay0, PyData.depth, PyData.eqv]
  by_cases h : i = j <;> simp [h]
@[simp] theorem neD_int {S : Sto} {i j : Int} : neD S (.int i) (.int j) = some (.bl (decide (i ≠ j))) := by
  simp only [neD, der, D.py, SeqAt.shaped, PyData.canLay0, PyData.depth, PyData.eqv]
  by_cases h : i = j <;> simp [h]
theorem eqv3 {a b c x y z : Int} : PyData.eqv (.tuple [.int a, .int b, .int c]) (.tuple [.int x, .int y, .int z]) = decide (a = x ∧ b = y ∧ c = z) := by
  by_cases h1 : a = x <;> by_cases h2 : b = y <;> by_cases h3 : c = z <;> simp [PyData.eqv, PyData.eqvAll, h1, h2, h3]
@[simp] theorem eqD_3 {S : Sto} {a b c x y z : Int} : eqD S (.tup [.int a, .int b, .int c]) (.tup [.int x, .int y, .int z]) = some (.bl (decide (a = x ∧ b = y ∧ c = z))) := by
  have e : eqD S (.tup [.int a, .int b, .int c]) (.tup [.int x, .int y, .int z]) = some (.bl (PyData.eqv (.tuple [.int a, .int b, .int c]) (.tuple [.int x, .int y, .int z]))) := by
    simp [eqD, der, D.py, D.pys, SeqAt.shaped, PyData.canLay0, PyData.canLayAll0, PyData.depth, PyData.depthAll]
  rw [e, eqv3]
@[simp] theorem neD_3 {S : Sto} {a b c x y z : Int} : neD S (.tup [.int a, .int b, .int c]) (.tup [.int x, .int y, .int z]) = some (.bl (decide (¬ (a = x ∧ b = y ∧ c = z)))) := by
  have e : neD S (.tup [.int a, .int b, .int c]) (.tup [.int x, .int y, .int z]) = some (.bl (!PyData.eqv (.tuple [.int a, .int b, .int c]) (.tuple [.int x, .int y, .int z]))) := by
    simp [neD, der, D.py, D.pys, SeqAt.shaped, PyData.canLay0, PyData.canLayAll0, PyData.depth, PyData.depthAll]
  rw [e, eqv3, decide_not]
theorem pys_int {l : List Int} : PyData.canLayAll0 (D.pys (l.map D.int)) = true ∧ PyData.depthAll (D.pys (l.map D.int)) = 0 := by
  induction l with
  | nil => exact ⟨rfl, rfl⟩
  | cons a l ih => simp [D.pys, D.py, PyData.canLayAll0, PyData.depthAll, PyData.canLay0, PyData.depth, ih]
@[simp] theorem neD_nil {S : Sto} {n : Nat} {l : List Int} (h : S[n]? = some (.lst (l.map D.int))) : neD S (.loc n) (.lst []) = some (.bl (decide (l ≠ []))) := by
  have e : der S (.loc n) = .lst (l.map D.int) := by simp [der, h]
  unfold neD
  rw [e]
  have h1 := (pys_int (l := l)).1
  have h2 := (pys_int (l := l)).2
  have s1 : SeqAt.shaped (D.lst (l.map D.int)).py = true := by simp [SeqAt.shaped, D.py, PyData.canLay0, PyData.depth, h1, h2]
  have s2 : SeqAt.shaped (der S (D.lst [])).py = true := by simp [der, SeqAt.shaped, D.py, D.pys, PyData.canLay0, PyData.canLayAll0, PyData.depthAll, PyData.depth]
  rw [if_pos ⟨s1, s2⟩]
  cases l with
  | nil => simp [der, D.py, D.pys, PyData.eqv, PyData.eqvAll]
  | cons a l => simp [der, D.py, D.pys, PyData.eqv, PyData.eqvAll]
/-! ### a law's deck: the cells, a number, how many draws there were -/
def deckS (c : List Int) (m n : Int) (T : Sto) : Sto := .lst (c.map D.int) :: .dct [(.inr "left", .loc 0), (.inr "mixed", .int m), (.inr "draws", .int n)] :: T
section
variable {c : List Int} {m n k : Int} {T : Sto}
@[simp] theorem dk_left : ixD (deckS c m n T) (.loc 1) (.str "left") = some (.loc 0) := by rfl
@[simp] theorem dk_mixed : ixD (deckS c m n T) (.loc 1) (.str "mixed") = some (.int m) := by rfl
@[simp] theorem dk_draws : ixD (deckS c m n T) (.loc 1) (.str "draws") = some (.int n) := by rfl
@[simp] theorem dk_set : setD (deckS c m n T) (.loc 1) (.str "draws") (.int k) = some (deckS c m k T) := by rfl
@[simp] theorem dk_isT : isT (deckS c m n T) "list" (.loc 0) = true := by rfl
@[simp] theorem dk_ne : neD (deckS c m n T) (.loc 0) (.lst []) = some (.bl (decide (c ≠ []))) := neD_nil rfl
theorem dk_pop (h : c ≠ []) : popD (deckS c m n T) (.loc 0) [] = some (.int (c.getLast h), deckS c.dropLast m n T) := by
  have hl : 0 < c.length := List.length_pos_iff.mpr h
  have e : (c.map D.int)[(c.map D.int).length - 1]? = some (.int (c.getLast h)) := by
    rw [List.length_map, List.getElem?_map, List.getLast_eq_getElem]
    simp [hl]
  show (match (c.map D.int)[(c.map D.int).length - 1]? with
    | some y => some (y, (deckS c m n T).set 0 (.lst (c.map D.int).dropLast))
    | none => none) = _
  rw [e]
  simp [deckS, List.map_dropLast]
theorem dk_app (h : c.length ≤ 63) : appD (deckS c m n T) (.loc 0) [.int k] = some (.non, deckS (c ++ [k]) m n T) := by
  show (if (c.map D.int).length < 16777216 then some (D.non, (deckS c m n T).set 0 (.lst (c.map D.int ++ [.int k]))) else none) = _
  rw [if_pos (by simp; omega)]
  simp [deckS]
/-- at most N draws so far -/
def DkP (N : Nat) (T S : Sto) : Prop := ∃ c m n, S = deckS c m n T ∧ c.length ≤ 63 ∧ 0 ≤ m ∧ m < 2147483629 ∧ 0 ≤ n ∧ n ≤ (N : Int)
theorem DkP.up {N M : Nat} {T S : Sto} (h : DkP N T S) (k : N ≤ M) : DkP M T S := by
  obtain ⟨c, m, n, h1, h2, h3, h4, h5, h6⟩ := h
  exact ⟨c, m, n, h1, h2, h3, h4, h5, by omega⟩
end
end Mi

namespace Mi
open PySem PySem.Spec PyProof.Rows L2
/-! ### greatest common divisors, lowest terms -/
def g2 (x y : Int) : Int := (Int.gcd x y : Int)
def g3 (x y w : Int) : Int := g2 (g2 x y) w
theorem g2_nonneg (x y : Int) : 0 ≤ g2 x y := Int.natCast_nonneg _
theorem g2_dvd_left (x y : Int) : g2 x y ∣ x := Int.gcd_dvd_left ..
theorem g2_dvd_right (x y : Int) : g2 x y ∣ y := Int.gcd_dvd_right ..
theorem g2_pos {x y : Int} (h : 0 < y) : 0 < g2 x y := by
  have := Int.gcd_pos_of_ne_zero_right x (b := y) (by omega)
  unfold g2; omega
theorem g2_le {x y : Int} (h : 0 < y) : g2 x y ≤ y := Int.le_of_dvd h (g2_dvd_right x y)
theorem g3_pos {x y w : Int} (h : 0 < w) : 0 < g3 x y w := g2_pos h
theorem g3_le {x y w : Int} (h : 0 < w) : g3 x y w ≤ w := g2_le h
theorem g3_dvd {x y w : Int} : g3 x y w ∣ x ∧ g3 x y w ∣ y ∧ g3 x y w ∣ w :=
  ⟨Int.dvd_trans (g2_dvd_left _ _) (g2_dvd_left _ _), Int.dvd_trans (g2_dvd_left _ _) (g2_dvd_right _ _), g2_dvd_right _ _⟩
theorem g2_scale {h x y : Int} (hh : 0 ≤ h) : g2 (h * x) (h * y) = h * g2 x y := by
  unfold g2
  rw [Int.gcd_mul_left]
  have : (h.natAbs : Int) = h := by omega
  rw [Int.natCast_mul, this]
theorem g3_scale {h x y w : Int} (hh : 0 ≤ h) : g3 (h * x) (h * y) (h * w) = h * g3 x y w := by
  unfold g3
  rw [g2_scale hh, g2_scale hh]
theorem bd_g2 {x y : Int} {m : Nat} [b : Bd y m] (h : 0 < y) : Bd (g2 x y) m := by
  have h1 := g2_le (x := x) h
  have h2 := g2_nonneg x y
  have h3 := b.hi
  have h4 := b.lo
  exact bd_lt (by omega) (by omega)
/-- a spot in lowest terms, as data -/
def spD3 (x y w : Int) : D := .tup [.int (x / g3 x y w), .int (y / g3 x y w), .int (w / g3 x y w)]
def frD (n d : Int) : D := .tup [.int (n / g2 n d), .int (d / g2 n d)]
theorem mul_div_scale {h x g : Int} (hh : 0 < h) : h * x / (h * g) = x / g := Int.mul_ediv_mul_of_pos x g hh
theorem spD3_scale {h x y w : Int} (hh : 0 < h) : spD3 (h * x) (h * y) (h * w) = spD3 x y w := by
  unfold spD3
  rw [g3_scale (by omega), mul_div_scale hh, mul_div_scale hh, mul_div_scale hh]
theorem spD3_eq {x y w X Y Z : Int} (hw : 0 < w) (hZ : 0 < Z) (h1 : x * Z = X * w) (h2 : y * Z = Y * w) : spD3 x y w = spD3 X Y Z := by
  have e1 : Z * x = w * X := by rw [Int.mul_comm, h1, Int.mul_comm]
  have e2 : Z * y = w * Y := by rw [Int.mul_comm, h2, Int.mul_comm]
  have e3 : Z * w = w * Z := Int.mul_comm ..
  calc spD3 x y w = spD3 (Z * x) (Z * y) (Z * w) := (spD3_scale hZ).symm
    _ = spD3 (w * X) (w * Y) (w * Z) := by rw [e1, e2, e3]
    _ = spD3 X Y Z := spD3_scale hw
theorem spD3_low {x y w : Int} (h : g3 x y w = 1) : spD3 x y w = .tup [.int x, .int y, .int w] := by
  unfold spD3
  rw [h, Int.ediv_one, Int.ediv_one, Int.ediv_one]
theorem frD_scale {h n d : Int} (hh : 0 < h) : frD (h * n) (h * d) = frD n d := by
  unfold frD
  rw [g2_scale (by omega), mul_div_scale hh, mul_div_scale hh]
/-- the parts of lowest terms -/
theorem low_parts {x y w : Int} (hw : 0 < w) : ∃ g a b c, 0 < g ∧ x = g * a ∧ y = g * b ∧ w = g * c ∧ 0 < c ∧ c ≤ w ∧ g3 a b c = 1 ∧ spD3 x y w = .tup [.int a, .int b, .int c] ∧ a.natAbs ≤ x.natAbs ∧ b.natAbs ≤ y.natAbs := by
  have hg := g3_pos (x := x) (y := y) hw
  obtain ⟨⟨a, ha⟩, ⟨b, hb⟩, ⟨c, hc⟩⟩ := g3_dvd (x := x) (y := y) (w := w)
  have hg0 : g3 x y w ≠ 0 := by omega
  have e1 : x / g3 x y w = a := by
    conv => lhs; lhs; rw [ha]
    exact Int.mul_ediv_cancel_left a hg0
  have e2 : y / g3 x y w = b := by
    conv => lhs; lhs; rw [hb]
    exact Int.mul_ediv_cancel_left b hg0
  have e3 : w / g3 x y w = c := by
    conv => lhs; lhs; rw [hc]
    exact Int.mul_ediv_cancel_left c hg0
  have hcp : 0 < c := by
    rcases Int.lt_trichotomy c 0 with q | q | q
    · have := Int.mul_neg_of_pos_of_neg hg q
      omega
    · subst q; simp at hc; omega
    · exact q
  refine ⟨g3 x y w, a, b, c, hg, ha, hb, hc, hcp, ?_, ?_, ?_, ?_, ?_⟩
  · have : c * 1 ≤ c * g3 x y w := Int.mul_le_mul_of_nonneg_left (by omega) (by omega)
    rw [Int.mul_comm c (g3 x y w), ← hc] at this
    omega
  · have h1 := g3_scale (h := g3 x y w) (x := a) (y := b) (w := c) (by omega)
    rw [← ha, ← hb, ← hc] at h1
    have h2 : g3 x y w * 1 = g3 x y w * g3 a b c := by rw [Int.mul_one]; exact h1
    exact (Int.eq_of_mul_eq_mul_left hg0 h2).symm
  · unfold spD3
    rw [e1, e2, e3]
  · have q := congrArg Int.natAbs ha
    rw [Int.natAbs_mul] at q
    rw [q]
    exact Nat.le_mul_of_pos_left _ (by omega)
  · have q := congrArg Int.natAbs hb
    rw [Int.natAbs_mul] at q
    rw [q]
    exact Nat.le_mul_of_pos_left _ (by omega)
theorem fr_parts {n d : Int} (hd : 0 < d) : ∃ g a b, 0 < g ∧ n = g * a ∧ d = g * b ∧ 0 < b ∧ frD n d = .tup [.int a, .int b] ∧ a.natAbs ≤ n.natAbs ∧ b ≤ d := by
  have hg := g2_pos (x := n) hd
  obtain ⟨a, ha⟩ := g2_dvd_left n d
  obtain ⟨b, hb⟩ := g2_dvd_right n d
  have hg0 : g2 n d ≠ 0 := by omega
  have e1 : n / g2 n d = a := by
    conv => lhs; lhs; rw [ha]
    exact Int.mul_ediv_cancel_left a hg0
  have e2 : d / g2 n d = b := by
    conv => lhs; lhs; rw [hb]
    exact Int.mul_ediv_cancel_left b hg0
  have hbp : 0 < b := by
    rcases Int.lt_trichotomy b 0 with q | q | q
    · have := Int.mul_neg_of_pos_of_neg hg q
      omega
    · subst q; simp at hb; omega
    · exact q
  refine ⟨g2 n d, a, b, hg, ha, hb, hbp, ?_, ?_, ?_⟩
  · unfold frD
    rw [e1, e2]
  · have q := congrArg Int.natAbs ha
    rw [Int.natAbs_mul] at q
    rw [q]
    exact Nat.le_mul_of_pos_left _ (by omega)
  · have : b * 1 ≤ b * g2 n d := Int.mul_le_mul_of_nonneg_left (by omega) (by omega)
    rw [Int.mul_comm b (g2 n d), ← hb] at this
    omega
/-- two whole numbers taken in turn, by remainders -/
theorem g2_step {a b : Int} (ha : 0 ≤ a) (hb : 0 < b) : g2 b (a % b) = g2 a b := by
  obtain ⟨p, rfl⟩ := Int.eq_ofNat_of_zero_le ha
  obtain ⟨q, rfl⟩ := Int.eq_ofNat_of_zero_le (Int.le_of_lt hb)
  have e : ((p : Int) % (q : Int)) = ((p % q : Nat) : Int) := (Int.natCast_emod p q).symm
  unfold g2
  rw [e]
  show ((Nat.gcd q (p % q) : Nat) : Int) = ((Nat.gcd p q : Nat) : Int)
  congr 1
  rw [Nat.gcd_comm q, ← Nat.gcd_rec, Nat.gcd_comm]
theorem g2_zero {a : Int} (ha : 0 ≤ a) : g2 a 0 = a := by
  unfold g2
  simp
  omega
theorem g2_abs {a b : Int} : g2 (if a < 0 then -a else a) (if b < 0 then -b else b) = g2 a b := by
  unfold g2
  split <;> split <;> simp
end Mi

namespace K02
open PySem PySem.Spec PyProof.Rows L2 Mi
def top (i : Nat) : Stmt := PySem.Challenge.pw_everyscale_k02_whole_meetings_of_segment.main.body.getD i (.Pass ⟨0, 0, 0, 0⟩)
abbrev st_is_int : Stmt := top 5
abbrev st_is_from : Stmt := top 6
abbrev st_is_tuple : Stmt := top 7
abbrev st_common_part : Stmt := top 9
abbrev st_is_spot_value : Stmt := top 13
abbrev st_need_spot : Stmt := top 14
abbrev st_need_spots : Stmt := top 15
abbrev st_lowest_spot : Stmt := top 16
abbrev st_sign : Stmt := top 17
abbrev st_cross : Stmt := top 18
abbrev st_dot : Stmt := top 19
abbrev st_turn_of : Stmt := top 20
abbrev st_is_ahead : Stmt := top 21
abbrev st_sorted_spots : Stmt := top 22
abbrev st_common_stretch : Stmt := top 23
abbrev st_meeting_of : Stmt := top 24
abbrev st_meeting : Stmt := top 26
abbrev st__law_deck : Stmt := top 28
abbrev st__law_draw : Stmt := top 29
abbrev st__law_pick : Stmt := top 30
abbrev st__law_far : Stmt := top 31
abbrev st__law_is_bool : Stmt := top 32
abbrev st__law_same : Stmt := top 33
abbrev st__law_gcd : Stmt := top 34
abbrev st__law_spot : Stmt := top 35
abbrev st__law_number : Stmt := top 36
abbrev st__law_any_spot : Stmt := top 37
abbrev st__law_most : Stmt := top 38
abbrev st__law_is_ahead : Stmt := top 39
abbrev st__law_along : Stmt := top 40
abbrev st__law_is_within : Stmt := top 41
abbrev st__law_meeting : Stmt := top 42
abbrev st__law_beside : Stmt := top 43
abbrev st__law_on : Stmt := top 44
abbrev st__law_segments : Stmt := top 45
abbrev st_law : Stmt := top 46
structure Fx (K : PySem.W.Frag) (mg : Str → Option Value) : Prop where
  g_is_int : ∃ f fd, Got K mg "is_int" st_is_int f fd
  g_is_from : ∃ f fd, Got K mg "is_from" st_is_from f fd
  g_is_tuple : ∃ f fd, Got K mg "is_tuple" st_is_tuple f fd
  g_common_part : ∃ f fd, Got K mg "common_part" st_common_part f fd
  g_is_spot_value : ∃ f fd, Got K mg "is_spot_value" st_is_spot_value f fd
  g_need_spot : ∃ f fd, Got K mg "need_spot" st_need_spot f fd
  g_need_spots : ∃ f fd, Got K mg "need_spots" st_need_spots f fd
  g_lowest_spot : ∃ f fd, Got K mg "lowest_spot" st_lowest_spot f fd
  g_sign : ∃ f fd, Got K mg "sign" st_sign f fd
  g_cross : ∃ f fd, Got K mg "cross" st_cross f fd
  g_dot : ∃ f fd, Got K mg "dot" st_dot f fd
  g_turn_of : ∃ f fd, Got K mg "turn_of" st_turn_of f fd
  g_is_ahead : ∃ f fd, Got K mg "is_ahead" st_is_ahead f fd
  g_sorted_spots : ∃ f fd, Got K mg "sorted_spots" st_sorted_spots f fd
  g_common_stretch : ∃ f fd, Got K mg "common_stretch" st_common_stretch f fd
  g_meeting_of : ∃ f fd, Got K mg "meeting_of" st_meeting_of f fd
  g_meeting : ∃ f fd, Got K mg "meeting" st_meeting f fd
  g__law_deck : ∃ f fd, Got K mg "_law_deck" st__law_deck f fd
  g__law_draw : ∃ f fd, Got K mg "_law_draw" st__law_draw f fd
  g__law_pick : ∃ f fd, Got K mg "_law_pick" st__law_pick f fd
  g__law_far : ∃ f fd, Got K mg "_law_far" st__law_far f fd
  g__law_is_bool : ∃ f fd, Got K mg "_law_is_bool" st__law_is_bool f fd
  g__law_same : ∃ f fd, Got K mg "_law_same" st__law_same f fd
  g__law_gcd : ∃ f fd, Got K mg "_law_gcd" st__law_gcd f fd
  g__law_spot : ∃ f fd, Got K mg "_law_spot" st__law_spot f fd
  g__law_number : ∃ f fd, Got K mg "_law_number" st__law_number f fd
  g__law_any_spot : ∃ f fd, Got K mg "_law_any_spot" st__law_any_spot f fd
  g__law_most : ∃ f fd, Got K mg "_law_most" st__law_most f fd
  g__law_is_ahead : ∃ f fd, Got K mg "_law_is_ahead" st__law_is_ahead f fd
  g__law_along : ∃ f fd, Got K mg "_law_along" st__law_along f fd
  g__law_is_within : ∃ f fd, Got K mg "_law_is_within" st__law_is_within f fd
  g__law_meeting : ∃ f fd, Got K mg "_law_meeting" st__law_meeting f fd
  g__law_beside : ∃ f fd, Got K mg "_law_beside" st__law_beside f fd
  g__law_on : ∃ f fd, Got K mg "_law_on" st__law_on f fd
  g__law_segments : ∃ f fd, Got K mg "_law_segments" st__law_segments f fd
  g_law : ∃ f fd, Got K mg "law" st_law f fd
  n_abs : mg "abs" = none
  n_bool : mg "bool" = none
  n_int : mg "int" = none
  n_isinstance : mg "isinstance" = none
  n_len : mg "len" = none
  n_max : mg "max" = none
  n_min : mg "min" = none
  n_range : mg "range" = none
  n_str : mg "str" = none
  n_tuple : mg "tuple" = none
  n_zip : mg "zip" = none
  v_ALONG : ∃ t, mg "ALONG" = some (.str "along" t)
  v_AT : ∃ t, mg "AT" = some (.str "at" t)
theorem bk_meeting_0_s_r_q_p : BindKOk "meeting" st_meeting ["p", "q", "r", "s"] 0 ["s", "r", "q", "p"] [3, 2, 1, 0] := fun _ _ _ _ _ _ us ws h1 h2 => match us, ws, h1, h2 with | [], [_, _, _, _], _, _ => rfl
section
variable {P : Program} {w : World} {K : PySem.W.Frag} {mg : Str → Option Value} {base : Heap}
abbrev N_is_int : List Str := ["thing"]
theorem sc_is_int : FnScope N_is_int ["thing"] (defScope st_is_int) := ⟨rfl, rfl, rfl, by decide +kernel, rfl, by decide +kernel, by decide +kernel⟩
theorem bd_is_int : BindOk "is_int" st_is_int ["thing"] := fun _ _ _ _ _ _ us hl => match us, hl with | [_], _ => rfl
noncomputable def b_is_int : SM :=
      (sRet (mAnd (mB isiD (aCons (mVar 0) (aCons (mC (.ty "int")) aNil))) (mNot (mB isiD (aCons (mVar 0) (aCons (mC (.ty "bool")) aNil))))))
noncomputable def m_is_int : FM := fnP N_is_int.length b_is_int
theorem ok_is_int (c : Fx K mg) : FD P w K mg base "is_int" st_is_int ["thing"] 1 m_is_int := by
    obtain ⟨f, fd, G⟩ := c.g_is_int
    refine (fd_mk (k := 0) G sc_is_int fun X W cdv A outer s H E eX eW tk hp hr => ?_)
    have hu := hr.units
    have hu65 : X.A.units + 65 < cLine := by have := hr.un; omega
    have hu1 : X.A.units + 1 < cLine := by have := hr.un; omega
    have nd := sc_is_int.nd
    subst eX
    exact (b_one (s_ret (d_and (d_B (cD_isi) rfl c.n_isinstance bt_isinstance (a_cons (d_var (i := 0) rfl (Or.inl rfl)) (a_cons (d_ty rfl c.n_int bt_int) a_nil))) (d_one (d_not (d_B (cD_isi) rfl c.n_isinstance bt_isinstance (a_cons (d_var (i := 0) rfl (Or.inl rfl)) (a_cons (d_ty rfl c.n_bool bt_bool) a_nil))))))))

abbrev N_is_from : List Str := ["thing", "least"]
theorem sc_is_from : FnScope N_is_from ["thing", "least"] (defScope st_is_from) := ⟨rfl, rfl, rfl, by decide +kernel, rfl, by decide +kernel, by decide +kernel⟩
theorem bd_is_from : BindOk "is_from" st_is_from ["thing", "least"] := fun _ _ _ _ _ _ us hl => match us, hl with | [_, _], _ => rfl
noncomputable def b_is_from : SM :=
      (sRet (mAnd (mCall 1 m_is_int (aCons (mVar 0) aNil)) (mOp geD (mVar 0) (mVar 1))))
noncomputable def m_is_from : FM := fnP N_is_from.length b_is_from
theorem ok_is_from (c : Fx K mg) : FD P w K mg base "is_from" st_is_from ["thing", "least"] 2 m_is_from := by
    obtain ⟨f, fd, G⟩ := c.g_is_from
    refine (fd_mk (k := 1) G sc_is_from fun X W cdv A outer s H E eX eW tk hp hr => ?_)
    have hu := hr.units
    have hu65 : X.A.units + 65 < cLine := by have := hr.un; omega
    have hu1 : X.A.units + 1 < cLine := by have := hr.un; omega
    have nd := sc_is_from.nd
    subst eX
    exact (b_one (s_ret (d_and (d_call (ok_is_int c) bd_is_int (hr.mono (by decide)) rfl tk (a_cons (d_var (i := 0) rfl (Or.inl rfl)) a_nil)) (d_one (d_cmp opD_ge (d_var (i := 0) rfl (Or.inl rfl)) (d_var (i := 1) rfl (Or.inl rfl)) rfl)))))

abbrev N_is_tuple : List Str := ["thing", "many"]
theorem sc_is_tuple : FnScope N_is_tuple ["thing", "many"] (defScope st_is_tuple) := ⟨rfl, rfl, rfl, by decide +kernel, rfl, by decide +kernel, by decide +kernel⟩
theorem bd_is_tuple : BindOk "is_tuple" st_is_tuple ["thing", "many"] := fun _ _ _ _ _ _ us hl => match us, hl with | [_, _], _ => rfl
noncomputable def b_is_tuple : SM :=
      (sRet (mAnd (mB isiD (aCons (mVar 0) (aCons (mC (.ty "tuple")) aNil))) (mOp eqD (mB lenD (aCons (mVar 0) aNil)) (mVar 1))))
noncomputable def m_is_tuple : FM := fnP N_is_tuple.length b_is_tuple
theorem ok_is_tuple (c : Fx K mg) : FD P w K mg base "is_tuple" st_is_tuple ["thing", "many"] 1 m_is_tuple := by
    obtain ⟨f, fd, G⟩ := c.g_is_tuple
    refine (fd_mk (k := 0) G sc_is_tuple fun X W cdv A outer s H E eX eW tk hp hr => ?_)
    have hu := hr.units
    have hu65 : X.A.units + 65 < cLine := by have := hr.un; omega
    have hu1 : X.A.units + 1 < cLine := by have := hr.un; omega
    have nd := sc_is_tuple.nd
    subst eX
    exact (b_one (s_ret (d_and (d_B (cD_isi) rfl c.n_isinstance bt_isinstance (a_cons (d_var (i := 0) rfl (Or.inl rfl)) (a_cons (d_ty rfl c.n_tuple bt_tuple) a_nil))) (d_one (d_cmp (opD_eq hu) (d_B (cD_len) rfl c.n_len bt_len (a_cons (d_var (i := 0) rfl (Or.inl rfl)) a_nil)) (d_var (i := 1) rfl (Or.inl rfl)) rfl)))))

abbrev N_common_part : List Str := ["one", "other"]
theorem sc_common_part : FnScope N_common_part ["one", "other"] (defScope st_common_part) := ⟨rfl, rfl, rfl, by decide +kernel, rfl, by decide +kernel, by decide +kernel⟩
theorem bd_common_part : BindOk "common_part" st_common_part ["one", "other"] := fun _ _ _ _ _ _ us hl => match us, hl with | [_, _], _ => rfl
noncomputable def b_common_part : SM :=
      (sSeq (sPar [0, 1] (aCons (mB absD (aCons (mVar 0) aNil)) (aCons (mB absD (aCons (mVar 1) aNil)) aNil)))
      (sSeq (sWhile (bVal (mOp neD (mVar 1) (mC (.int 0)))) (sPar [0, 1] (aCons (mVar 1) (aCons (mOp modD (mVar 0) (mVar 1)) aNil))))
      (sRet (mVar 0))))
noncomputable def m_common_part : FM := fnP N_common_part.length b_common_part
theorem ok_common_part (c : Fx K mg) : FD P w K mg base "common_part" st_common_part ["one", "other"] 1 m_common_part := by
    obtain ⟨f, fd, G⟩ := c.g_common_part
    refine (fd_mk (k := 0) G sc_common_part fun X W cdv A outer s H E eX eW tk hp hr => ?_)
    have hu := hr.units
    have hu65 : X.A.units + 65 < cLine := by have := hr.un; omega
    have hu1 : X.A.units + 1 < cLine := by have := hr.un; omega
    have nd := sc_common_part.nd
    subst eX
    exact (b_cons (s_par2 (i := 0) (j := 1) rfl nd rfl rfl (by decide) rfl rfl (a_cons (d_B (cD_abs) rfl c.n_abs bt_abs (a_cons (d_var (i := 0) rfl (Or.inl rfl)) a_nil)) (a_cons (d_B (cD_abs) rfl c.n_abs bt_abs (a_cons (d_var (i := 1) rfl (Or.inl rfl)) a_nil)) a_nil)))
      (b_cons (s_while hp (t_cmp (opD_ne hu) (d_var (i := 1) rfl (Or.inl rfl)) d_int rfl) (b_one (s_par2 (i := 0) (j := 1) rfl nd rfl rfl (by decide) rfl rfl (a_cons (d_var (i := 1) rfl (Or.inl rfl)) (a_cons (d_bin opD_mod (d_var (i := 0) rfl (Or.inl rfl)) (d_var (i := 1) rfl (Or.inl rfl))) a_nil)))))
      (b_one (s_ret (d_var (i := 0) rfl (Or.inl rfl))))))

abbrev N_is_spot_value : List Str := ["thing"]
theorem sc_is_spot_value : FnScope N_is_spot_value ["thing"] (defScope st_is_spot_value) := ⟨rfl, rfl, rfl, by decide +kernel, rfl, by decide +kernel, by decide +kernel⟩
theorem bd_is_spot_value : BindOk "is_spot_value" st_is_spot_value ["thing"] := fun _ _ _ _ _ _ us hl => match us, hl with | [_], _ => rfl
noncomputable def b_is_spot_value : SM :=
      (sSeq (sIf (bOr (bNot (bVal (mCall 2 m_is_tuple (aCons (mVar 0) (aCons (mC (.int 3)) aNil))))) (bOr (bNot (bVal (mCall 1 m_is_int (aCons (mOp ixD (mVar 0) (mC (.int 0))) aNil)))) (bOr (bNot (bVal (mCall 1 m_is_int (aCons (mOp ixD (mVar 0) (mC (.int 1))) aNil)))) (bNot (bVal (mCall 2 m_is_from (aCons (mOp ixD (mVar 0) (mC (.int 2))) (aCons (mC (.int 1)) aNil)))))))) (sRet (mC (.bl false))) sNil)
      (sRet (mOp eqD (mCall 2 m_common_part (aCons (mCall 2 m_common_part (aCons (mOp ixD (mVar 0) (mC (.int 0))) (aCons (mOp ixD (mVar 0) (mC (.int 1))) aNil))) (aCons (mOp ixD (mVar 0) (mC (.int 2))) aNil))) (mC (.int 1)))))
noncomputable def m_is_spot_value : FM := fnP N_is_spot_value.length b_is_spot_value
theorem ok_is_spot_value (c : Fx K mg) : FD P w K mg base "is_spot_value" st_is_spot_value ["thing"] 3 m_is_spot_value := by
    obtain ⟨f, fd, G⟩ := c.g_is_spot_value
    refine (fd_mk (k := 2) G sc_is_spot_value fun X W cdv A outer s H E eX eW tk hp hr => ?_)
    have hu := hr.units
    have hu65 : X.A.units + 65 < cLine := by have := hr.un; omega
    have hu1 : X.A.units + 1 < cLine := by have := hr.un; omega
    have nd := sc_is_spot_value.nd
    subst eX
    exact (b_cons (s_if (t_bool (w_or (t_not (t_val (d_call (ok_is_tuple c) bd_is_tuple (hr.mono (by decide)) rfl tk (a_cons (d_var (i := 0) rfl (Or.inl rfl)) (a_cons d_int a_nil))))) (w_or (t_not (t_val (d_call (ok_is_int c) bd_is_int (hr.mono (by decide)) rfl tk (a_cons (d_ix hu1 (d_var (i := 0) rfl (Or.inl rfl)) d_int (fun _ _ => rfl)) a_nil)))) (w_or (t_not (t_val (d_call (ok_is_int c) bd_is_int (hr.mono (by decide)) rfl tk (a_cons (d_ix hu1 (d_var (i := 0) rfl (Or.inl rfl)) d_int (fun _ _ => rfl)) a_nil)))) (w_or1 (t_not (t_val (d_call (ok_is_from c) bd_is_from (hr.mono (by decide)) rfl tk (a_cons (d_ix hu1 (d_var (i := 0) rfl (Or.inl rfl)) d_int (fun _ _ => rfl)) (a_cons d_int a_nil)))))))))) (b_one (s_ret d_bl)) b_nil)
      (b_one (s_ret (d_cmp (opD_eq hu) (d_call (ok_common_part c) bd_common_part (hr.mono (by decide)) rfl tk (a_cons (d_call (ok_common_part c) bd_common_part (hr.mono (by decide)) rfl tk (a_cons (d_ix hu1 (d_var (i := 0) rfl (Or.inl rfl)) d_int (fun _ _ => rfl)) (a_cons (d_ix hu1 (d_var (i := 0) rfl (Or.inl rfl)) d_int (fun _ _ => rfl)) a_nil))) (a_cons (d_ix hu1 (d_var (i := 0) rfl (Or.inl rfl)) d_int (fun _ _ => rfl)) a_nil))) d_int rfl))))

abbrev N_need_spot : List Str := ["thing"]
theorem sc_need_spot : FnScope N_need_spot ["thing"] (defScope st_need_spot) := ⟨rfl, rfl, rfl, by decide +kernel, rfl, by decide +kernel, by decide +kernel⟩
theorem bd_need_spot : BindOk "need_spot" st_need_spot ["thing"] := fun _ _ _ _ _ _ us hl => match us, hl with | [_], _ => rfl
noncomputable def b_need_spot : SM :=
      (sIf (bNot (bVal (mCall 1 m_is_spot_value (aCons (mVar 0) aNil)))) sBad sNil)
noncomputable def m_need_spot : FM := fnP N_need_spot.length b_need_spot
theorem ok_need_spot (c : Fx K mg) : FD P w K mg base "need_spot" st_need_spot ["thing"] 4 m_need_spot := by
    obtain ⟨f, fd, G⟩ := c.g_need_spot
    refine (fd_mk (k := 3) G sc_need_spot fun X W cdv A outer s H E eX eW tk hp hr => ?_)
    have hu := hr.units
    have hu65 : X.A.units + 65 < cLine := by have := hr.un; omega
    have hu1 : X.A.units + 1 < cLine := by have := hr.un; omega
    have nd := sc_need_spot.nd
    subst eX
    exact (b_one (s_if (t_not (t_val (d_call (ok_is_spot_value c) bd_is_spot_value (hr.mono (by decide)) rfl tk (a_cons (d_var (i := 0) rfl (Or.inl rfl)) a_nil)))) (b_one s_bad) b_nil))

abbrev N_need_spots : List Str := ["things", "thing"]
theorem sc_need_spots : FnScope N_need_spots ["things"] (defScope st_need_spots) := ⟨rfl, rfl, rfl, by decide +kernel, rfl, by decide +kernel, by decide +kernel⟩
theorem bd_need_spots : BindOk "need_spots" st_need_spots ["things"] := fun _ _ _ _ _ _ us hl => match us, hl with | [_], _ => rfl
noncomputable def b_need_spots : SM :=
      (sFor (iSeq (mVar 0)) (gN 1) (sDrop (mCall 1 m_need_spot (aCons (mVar 1) aNil))))
noncomputable def m_need_spots : FM := fnP N_need_spots.length b_need_spots
theorem ok_need_spots (c : Fx K mg) : FD P w K mg base "need_spots" st_need_spots ["things"] 5 m_need_spots := by
    obtain ⟨f, fd, G⟩ := c.g_need_spots
    refine (fd_mk (k := 4) G sc_need_spots fun X W cdv A outer s H E eX eW tk hp hr => ?_)
    have hu := hr.units
    have hu65 : X.A.units + 65 < cLine := by have := hr.un; omega
    have hu1 : X.A.units + 1 < cLine := by have := hr.un; omega
    have nd := sc_need_spots.nd
    subst eX
    exact (b_one (s_for hp rfl (i_seq (d_var (i := 0) rfl (Or.inl rfl))) (g_name nd (i := 1) rfl (Or.inl rfl) (Or.inr rfl)) (b_one (s_drop (d_call (ok_need_spot c) bd_need_spot (hr.mono (by decide)) rfl tk (a_cons (d_var (i := 1) rfl (Or.inl rfl)) a_nil))))))

abbrev N_lowest_spot : List Str := ["x", "y", "w", "part"]
theorem sc_lowest_spot : FnScope N_lowest_spot ["x", "y", "w"] (defScope st_lowest_spot) := ⟨rfl, rfl, rfl, by decide +kernel, rfl, by decide +kernel, by decide +kernel⟩
theorem bd_lowest_spot : BindOk "lowest_spot" st_lowest_spot ["x", "y", "w"] := fun _ _ _ _ _ _ us hl => match us, hl with | [_, _, _], _ => rfl
noncomputable def b_lowest_spot : SM :=
      (sSeq (sAsg (mCall 2 m_common_part (aCons (mCall 2 m_common_part (aCons (mVar 0) (aCons (mVar 1) aNil))) (aCons (mVar 2) aNil))) (gN 3))
      (sSeq (sAsg (mIf (bVal (mOp ltD (mVar 2) (mC (.int 0)))) (mUn negD (mVar 3)) (mVar 3)) (gN 3))
      (sRet (mTup (aCons (mOp fdivD (mVar 0) (mVar 3)) (aCons (mOp fdivD (mVar 1) (mVar 3)) (aCons (mOp fdivD (mVar 2) (mVar 3)) aNil)))))))
noncomputable def m_lowest_spot : FM := fnP N_lowest_spot.length b_lowest_spot
theorem ok_lowest_spot (c : Fx K mg) : FD P w K mg base "lowest_spot" st_lowest_spot ["x", "y", "w"] 2 m_lowest_spot := by
    obtain ⟨f, fd, G⟩ := c.g_lowest_spot
    refine (fd_mk (k := 1) G sc_lowest_spot fun X W cdv A outer s H E eX eW tk hp hr => ?_)
    have hu := hr.units
    have hu65 : X.A.units + 65 < cLine := by have := hr.un; omega
    have hu1 : X.A.units + 1 < cLine := by have := hr.un; omega
    have nd := sc_lowest_spot.nd
    subst eX
    exact (b_cons (s_set nd (i := 3) rfl (Or.inl rfl) (Or.inr rfl) (d_call (ok_common_part c) bd_common_part (hr.mono (by decide)) rfl tk (a_cons (d_call (ok_common_part c) bd_common_part (hr.mono (by decide)) rfl tk (a_cons (d_var (i := 0) rfl (Or.inl rfl)) (a_cons (d_var (i := 1) rfl (Or.inl rfl)) a_nil))) (a_cons (d_var (i := 2) rfl (Or.inl rfl)) a_nil))))
      (b_cons (s_set nd (i := 3) rfl (Or.inl rfl) (Or.inr rfl) (d_if (t_cmp opD_lt (d_var (i := 2) rfl (Or.inl rfl)) d_int rfl) (d_un unD_neg (d_var (i := 3) rfl (Or.inl rfl))) (d_var (i := 3) rfl (Or.inl rfl))))
      (b_one (s_ret (d_tup (a_cons (d_bin opD_fdiv (d_var (i := 0) rfl (Or.inl rfl)) (d_var (i := 3) rfl (Or.inl rfl))) (a_cons (d_bin opD_fdiv (d_var (i := 1) rfl (Or.inl rfl)) (d_var (i := 3) rfl (Or.inl rfl))) (a_cons (d_bin opD_fdiv (d_var (i := 2) rfl (Or.inl rfl)) (d_var (i := 3) rfl (Or.inl rfl))) a_nil))))))))

abbrev N_sign : List Str := ["number"]
theorem sc_sign : FnScope N_sign ["number"] (defScope st_sign) := ⟨rfl, rfl, rfl, by decide +kernel, rfl, by decide +kernel, by decide +kernel⟩
theorem bd_sign : BindOk "sign" st_sign ["number"] := fun _ _ _ _ _ _ us hl => match us, hl with | [_], _ => rfl
noncomputable def b_sign : SM :=
      (sRet (mOp subD (mOp gtD (mVar 0) (mC (.int 0))) (mOp ltD (mVar 0) (mC (.int 0)))))
noncomputable def m_sign : FM := fnP N_sign.length b_sign
theorem ok_sign (c : Fx K mg) : FD P w K mg base "sign" st_sign ["number"] 1 m_sign := by
    obtain ⟨f, fd, G⟩ := c.g_sign
    refine (fd_mk (k := 0) G sc_sign fun X W cdv A outer s H E eX eW tk hp hr => ?_)
    have hu := hr.units
    have hu65 : X.A.units + 65 < cLine := by have := hr.un; omega
    have hu1 : X.A.units + 1 < cLine := by have := hr.un; omega
    have nd := sc_sign.nd
    subst eX
    exact (b_one (s_ret (d_bin opD_sub (d_cmp opD_gt (d_var (i := 0) rfl (Or.inl rfl)) d_int rfl) (d_cmp opD_lt (d_var (i := 0) rfl (Or.inl rfl)) d_int rfl))))

abbrev N_cross : List Str := ["one", "other"]
theorem sc_cross : FnScope N_cross ["one", "other"] (defScope st_cross) := ⟨rfl, rfl, rfl, by decide +kernel, rfl, by decide +kernel, by decide +kernel⟩
theorem bd_cross : BindOk "cross" st_cross ["one", "other"] := fun _ _ _ _ _ _ us hl => match us, hl with | [_, _], _ => rfl
noncomputable def b_cross : SM :=
      (sRet (mTup (aCons (mOp subD (mOp mulD (mOp ixD (mVar 0) (mC (.int 1))) (mOp ixD (mVar 1) (mC (.int 2)))) (mOp mulD (mOp ixD (mVar 0) (mC (.int 2))) (mOp ixD (mVar 1) (mC (.int 1))))) (aCons (mOp subD (mOp mulD (mOp ixD (mVar 0) (mC (.int 2))) (mOp ixD (mVar 1) (mC (.int 0)))) (mOp mulD (mOp ixD (mVar 0) (mC (.int 0))) (mOp ixD (mVar 1) (mC (.int 2))))) (aCons (mOp subD (mOp mulD (mOp ixD (mVar 0) (mC (.int 0))) (mOp ixD (mVar 1) (mC (.int 1)))) (mOp mulD (mOp ixD (mVar 0) (mC (.int 1))) (mOp ixD (mVar 1) (mC (.int 0))))) aNil)))))
noncomputable def m_cross : FM := fnP N_cross.length b_cross
theorem ok_cross (c : Fx K mg) : FD P w K mg base "cross" st_cross ["one", "other"] 1 m_cross := by
    obtain ⟨f, fd, G⟩ := c.g_cross
    refine (fd_mk (k := 0) G sc_cross fun X W cdv A outer s H E eX eW tk hp hr => ?_)
    have hu := hr.units
    have hu65 : X.A.units + 65 < cLine := by have := hr.un; omega
    have hu1 : X.A.units + 1 < cLine := by have := hr.un; omega
    have nd := sc_cross.nd
    subst eX
    exact (b_one (s_ret (d_tup (a_cons (d_bin opD_sub (d_bin opD_mul (d_ix hu1 (d_var (i := 0) rfl (Or.inl rfl)) d_int (fun _ _ => rfl)) (d_ix hu1 (d_var (i := 1) rfl (Or.inl rfl)) d_int (fun _ _ => rfl))) (d_bin opD_mul (d_ix hu1 (d_var (i := 0) rfl (Or.inl rfl)) d_int (fun _ _ => rfl)) (d_ix hu1 (d_var (i := 1) rfl (Or.inl rfl)) d_int (fun _ _ => rfl)))) (a_cons (d_bin opD_sub (d_bin opD_mul (d_ix hu1 (d_var (i := 0) rfl (Or.inl rfl)) d_int (fun _ _ => rfl)) (d_ix hu1 (d_var (i := 1) rfl (Or.inl rfl)) d_int (fun _ _ => rfl))) (d_bin opD_mul (d_ix hu1 (d_var (i := 0) rfl (Or.inl rfl)) d_int (fun _ _ => rfl)) (d_ix hu1 (d_var (i := 1) rfl (Or.inl rfl)) d_int (fun _ _ => rfl)))) (a_cons (d_bin opD_sub (d_bin opD_mul (d_ix hu1 (d_var (i := 0) rfl (Or.inl rfl)) d_int (fun _ _ => rfl)) (d_ix hu1 (d_var (i := 1) rfl (Or.inl rfl)) d_int (fun _ _ => rfl))) (d_bin opD_mul (d_ix hu1 (d_var (i := 0) rfl (Or.inl rfl)) d_int (fun _ _ => rfl)) (d_ix hu1 (d_var (i := 1) rfl (Or.inl rfl)) d_int (fun _ _ => rfl)))) a_nil))))))

abbrev N_dot : List Str := ["one", "other"]
theorem sc_dot : FnScope N_dot ["one", "other"] (defScope st_dot) := ⟨rfl, rfl, rfl, by decide +kernel, rfl, by decide +kernel, by decide +kernel⟩
theorem bd_dot : BindOk "dot" st_dot ["one", "other"] := fun _ _ _ _ _ _ us hl => match us, hl with | [_, _], _ => rfl
noncomputable def b_dot : SM :=
      (sRet (mOp addD (mOp addD (mOp mulD (mOp ixD (mVar 0) (mC (.int 0))) (mOp ixD (mVar 1) (mC (.int 0)))) (mOp mulD (mOp ixD (mVar 0) (mC (.int 1))) (mOp ixD (mVar 1) (mC (.int 1))))) (mOp mulD (mOp ixD (mVar 0) (mC (.int 2))) (mOp ixD (mVar 1) (mC (.int 2))))))
noncomputable def m_dot : FM := fnP N_dot.length b_dot
theorem ok_dot (c : Fx K mg) : FD P w K mg base "dot" st_dot ["one", "other"] 1 m_dot := by
    obtain ⟨f, fd, G⟩ := c.g_dot
    refine (fd_mk (k := 0) G sc_dot fun X W cdv A outer s H E eX eW tk hp hr => ?_)
    have hu := hr.units
    have hu65 : X.A.units + 65 < cLine := by have := hr.un; omega
    have hu1 : X.A.units + 1 < cLine := by have := hr.un; omega
    have nd := sc_dot.nd
    subst eX
    exact (b_one (s_ret (d_bin opD_add (d_bin opD_add (d_bin opD_mul (d_ix hu1 (d_var (i := 0) rfl (Or.inl rfl)) d_int (fun _ _ => rfl)) (d_ix hu1 (d_var (i := 1) rfl (Or.inl rfl)) d_int (fun _ _ => rfl))) (d_bin opD_mul (d_ix hu1 (d_var (i := 0) rfl (Or.inl rfl)) d_int (fun _ _ => rfl)) (d_ix hu1 (d_var (i := 1) rfl (Or.inl rfl)) d_int (fun _ _ => rfl)))) (d_bin opD_mul (d_ix hu1 (d_var (i := 0) rfl (Or.inl rfl)) d_int (fun _ _ => rfl)) (d_ix hu1 (d_var (i := 1) rfl (Or.inl rfl)) d_int (fun _ _ => rfl))))))

abbrev N_turn_of : List Str := ["p", "q", "r"]
theorem sc_turn_of : FnScope N_turn_of ["p", "q", "r"] (defScope st_turn_of) := ⟨rfl, rfl, rfl, by decide +kernel, rfl, by decide +kernel, by decide +kernel⟩
theorem bd_turn_of : BindOk "turn_of" st_turn_of ["p", "q", "r"] := fun _ _ _ _ _ _ us hl => match us, hl with | [_, _, _], _ => rfl
noncomputable def b_turn_of : SM :=
      (sRet (mCall 1 m_sign (aCons (mCall 2 m_dot (aCons (mVar 0) (aCons (mCall 2 m_cross (aCons (mVar 1) (aCons (mVar 2) aNil))) aNil))) aNil)))
noncomputable def m_turn_of : FM := fnP N_turn_of.length b_turn_of
theorem ok_turn_of (c : Fx K mg) : FD P w K mg base "turn_of" st_turn_of ["p", "q", "r"] 2 m_turn_of := by
    obtain ⟨f, fd, G⟩ := c.g_turn_of
    refine (fd_mk (k := 1) G sc_turn_of fun X W cdv A outer s H E eX eW tk hp hr => ?_)
    have hu := hr.units
    have hu65 : X.A.units + 65 < cLine := by have := hr.un; omega
    have hu1 : X.A.units + 1 < cLine := by have := hr.un; omega
    have nd := sc_turn_of.nd
    subst eX
    exact (b_one (s_ret (d_call (ok_sign c) bd_sign (hr.mono (by decide)) rfl tk (a_cons (d_call (ok_dot c) bd_dot (hr.mono (by decide)) rfl tk (a_cons (d_var (i := 0) rfl (Or.inl rfl)) (a_cons (d_call (ok_cross c) bd_cross (hr.mono (by decide)) rfl tk (a_cons (d_var (i := 1) rfl (Or.inl rfl)) (a_cons (d_var (i := 2) rfl (Or.inl rfl)) a_nil))) a_nil))) a_nil))))

abbrev N_is_ahead : List Str := ["p", "q", "one", "other"]
theorem sc_is_ahead : FnScope N_is_ahead ["p", "q"] (defScope st_is_ahead) := ⟨rfl, rfl, rfl, by decide +kernel, rfl, by decide +kernel, by decide +kernel⟩
theorem bd_is_ahead : BindOk "is_ahead" st_is_ahead ["p", "q"] := fun _ _ _ _ _ _ us hl => match us, hl with | [_, _], _ => rfl
noncomputable def b_is_ahead : SM :=
      (sSeq (sPar [2, 3] (aCons (mOp mulD (mOp ixD (mVar 0) (mC (.int 0))) (mOp ixD (mVar 1) (mC (.int 2)))) (aCons (mOp mulD (mOp ixD (mVar 1) (mC (.int 0))) (mOp ixD (mVar 0) (mC (.int 2)))) aNil)))
      (sRet (mOr (mOp ltD (mVar 2) (mVar 3)) (mAnd (mOp eqD (mVar 2) (mVar 3)) (mOp ltD (mOp mulD (mOp ixD (mVar 0) (mC (.int 1))) (mOp ixD (mVar 1) (mC (.int 2)))) (mOp mulD (mOp ixD (mVar 1) (mC (.int 1))) (mOp ixD (mVar 0) (mC (.int 2)))))))))
noncomputable def m_is_ahead : FM := fnP N_is_ahead.length b_is_ahead
theorem ok_is_ahead (c : Fx K mg) : FD P w K mg base "is_ahead" st_is_ahead ["p", "q"] 1 m_is_ahead := by
    obtain ⟨f, fd, G⟩ := c.g_is_ahead
    refine (fd_mk (k := 0) G sc_is_ahead fun X W cdv A outer s H E eX eW tk hp hr => ?_)
    have hu := hr.units
    have hu65 : X.A.units + 65 < cLine := by have := hr.un; omega
    have hu1 : X.A.units + 1 < cLine := by have := hr.un; omega
    have nd := sc_is_ahead.nd
    subst eX
    exact (b_cons (s_par2 (i := 2) (j := 3) rfl nd rfl rfl (by decide) rfl rfl (a_cons (d_bin opD_mul (d_ix hu1 (d_var (i := 0) rfl (Or.inl rfl)) d_int (fun _ _ => rfl)) (d_ix hu1 (d_var (i := 1) rfl (Or.inl rfl)) d_int (fun _ _ => rfl))) (a_cons (d_bin opD_mul (d_ix hu1 (d_var (i := 1) rfl (Or.inl rfl)) d_int (fun _ _ => rfl)) (d_ix hu1 (d_var (i := 0) rfl (Or.inl rfl)) d_int (fun _ _ => rfl))) a_nil)))
      (b_one (s_ret (d_or (d_cmp opD_lt (d_var (i := 2) rfl (Or.inl rfl)) (d_var (i := 3) rfl (Or.inl rfl)) rfl) (d_one (d_and (d_cmp (opD_eq hu) (d_var (i := 2) rfl (Or.inl rfl)) (d_var (i := 3) rfl (Or.inl rfl)) rfl) (d_one (d_cmp opD_lt (d_bin opD_mul (d_ix hu1 (d_var (i := 0) rfl (Or.inl rfl)) d_int (fun _ _ => rfl)) (d_ix hu1 (d_var (i := 1) rfl (Or.inl rfl)) d_int (fun _ _ => rfl))) (d_bin opD_mul (d_ix hu1 (d_var (i := 1) rfl (Or.inl rfl)) d_int (fun _ _ => rfl)) (d_ix hu1 (d_var (i := 0) rfl (Or.inl rfl)) d_int (fun _ _ => rfl))) rfl))))))))

abbrev N_sorted_spots : List Str := ["items", "found", "item", "at", "other"]
theorem sc_sorted_spots : FnScope N_sorted_spots ["items"] (defScope st_sorted_spots) := ⟨rfl, rfl, rfl, by decide +kernel, rfl, by decide +kernel, by decide +kernel⟩
theorem bd_sorted_spots : BindOk "sorted_spots" st_sorted_spots ["items"] := fun _ _ _ _ _ _ us hl => match us, hl with | [_], _ => rfl
noncomputable def b_sorted_spots : SM :=
      (sSeq (sAsg (mNew aNil) (gN 1))
      (sSeq (sFor (iSeq (mVar 0)) (gN 2) (sSeq (sAsg (mB lenD (aCons (mLc (iSeq (mVar 1)) (gN 4) (bNot (bVal (mCall 2 m_is_ahead (aCons (mVar 2) (aCons (mVar 4) aNil))))) (mVar 4) [4]) aNil)) (gN 3))
      (sDrop (mM "list" insD (mVar 1) (aCons (mVar 3) (aCons (mVar 2) aNil))))))
      (sRet (mVar 1))))
noncomputable def m_sorted_spots : FM := (fun ds S => gcF S (fnP N_sorted_spots.length b_sorted_spots ds S))
theorem ok_sorted_spots (c : Fx K mg) : FD P w K mg base "sorted_spots" st_sorted_spots ["items"] 2 m_sorted_spots := by
    obtain ⟨f, fd, G⟩ := c.g_sorted_spots
    refine (fd_mk (k := 1) G sc_sorted_spots fun X W cdv A outer s H E eX eW tk hp hr => ?_).gcF
    have hu := hr.units
    have hu65 : X.A.units + 65 < cLine := by have := hr.un; omega
    have hu1 : X.A.units + 1 < cLine := by have := hr.un; omega
    have nd := sc_sorted_spots.nd
    subst eX
    exact (b_cons (s_set nd (i := 1) rfl (Or.inl rfl) (Or.inr rfl) (d_new a_nil))
      (b_cons (s_for hp rfl (i_seq (d_var (i := 0) rfl (Or.inl rfl))) (g_name nd (i := 2) rfl (Or.inr rfl) (Or.inl rfl)) (b_cons (s_set nd (i := 3) rfl (Or.inl rfl) (Or.inr rfl) (d_B (cD_len) rfl c.n_len bt_len (a_cons (d_lc rfl nd (i_seq (d_var (i := 1) rfl (Or.inl rfl))) (blkOk_by (own := [("other", 4)]) (by kernel_rfl)) (by decide) (fun s H C cl fp => (g_name nd (i := 4) rfl (Or.inl rfl) (Or.inr rfl))) (fun s H C cl fp => (ts_one (t_not (t_val (d_call (ok_is_ahead c) bd_is_ahead (hr.mono (by decide)) rfl takesW0 (a_cons (d_var (i := 2) rfl (Or.inr (Or.inl rfl))) (a_cons (d_var (i := 4) rfl (Or.inl rfl)) a_nil))))))) (fun s H C cl fp => (d_var (i := 4) rfl (Or.inl rfl)))) a_nil)))
      (b_one (s_drop (d_bm PySem.F.plainAttrs_list PySem.F.slot_list_insert PySem.F.type_list_insert mD_ins (d_var (i := 1) rfl (Or.inl rfl)) (a_cons (d_var (i := 3) rfl (Or.inl rfl)) (a_cons (d_var (i := 2) rfl (Or.inr (Or.inl rfl))) a_nil)))))))
      (b_one (s_ret (d_var (i := 1) rfl (Or.inl rfl))))))

abbrev N_common_stretch : List Str := ["p", "q", "r", "s", "first", "last", "other_first", "other_last"]
theorem sc_common_stretch : FnScope N_common_stretch ["p", "q", "r", "s"] (defScope st_common_stretch) := ⟨rfl, rfl, rfl, by decide +kernel, rfl, by decide +kernel, by decide +kernel⟩
theorem bd_common_stretch : BindOk "common_stretch" st_common_stretch ["p", "q", "r", "s"] := fun _ _ _ _ _ _ us hl => match us, hl with | [_, _, _, _], _ => rfl
noncomputable def b_common_stretch : SM :=
      (sSeq (sAsg (mCall 1 m_sorted_spots (aCons (mTup (aCons (mVar 0) (aCons (mVar 1) aNil))) aNil)) (gT [(gN 4), (gN 5)]))
      (sSeq (sAsg (mCall 1 m_sorted_spots (aCons (mTup (aCons (mVar 2) (aCons (mVar 3) aNil))) aNil)) (gT [(gN 6), (gN 7)]))
      (sSeq (sAsg (mIf (bVal (mCall 2 m_is_ahead (aCons (mVar 4) (aCons (mVar 6) aNil)))) (mVar 6) (mVar 4)) (gN 4))
      (sSeq (sAsg (mIf (bVal (mCall 2 m_is_ahead (aCons (mVar 7) (aCons (mVar 5) aNil)))) (mVar 7) (mVar 5)) (gN 5))
      (sSeq (sIf (bVal (mCall 2 m_is_ahead (aCons (mVar 5) (aCons (mVar 4) aNil)))) (sRet (mC .non)) sNil)
      (sRet (mIf (bVal (mOp eqD (mVar 4) (mVar 5))) (mTup (aCons (mC (.str "at")) (aCons (mVar 4) aNil))) (mTup (aCons (mC (.str "along")) (aCons (mVar 4) (aCons (mVar 5) aNil)))))))))))
noncomputable def m_common_stretch : FM := fnP N_common_stretch.length b_common_stretch
theorem ok_common_stretch (c : Fx K mg) : FD P w K mg base "common_stretch" st_common_stretch ["p", "q", "r", "s"] 3 m_common_stretch := by
    obtain ⟨f, fd, G⟩ := c.g_common_stretch
    refine (fd_mk (k := 2) G sc_common_stretch fun X W cdv A outer s H E eX eW tk hp hr => ?_)
    have hu := hr.units
    have hu65 : X.A.units + 65 < cLine := by have := hr.un; omega
    have hu1 : X.A.units + 1 < cLine := by have := hr.un; omega
    have nd := sc_common_stretch.nd
    subst eX
    exact (b_cons (s_asg (d_call (ok_sorted_spots c) bd_sorted_spots (hr.mono (by decide)) rfl tk (a_cons (d_tup (a_cons (d_var (i := 0) rfl (Or.inl rfl)) (a_cons (d_var (i := 1) rfl (Or.inl rfl)) a_nil))) a_nil)) (g_tup rfl (gs_cons (g_name nd (i := 4) rfl (Or.inl rfl) (Or.inr rfl)) (gs_cons (g_name nd (i := 5) rfl (Or.inl rfl) (Or.inr rfl)) gs_nil))))
      (b_cons (s_asg (d_call (ok_sorted_spots c) bd_sorted_spots (hr.mono (by decide)) rfl tk (a_cons (d_tup (a_cons (d_var (i := 2) rfl (Or.inl rfl)) (a_cons (d_var (i := 3) rfl (Or.inl rfl)) a_nil))) a_nil)) (g_tup rfl (gs_cons (g_name nd (i := 6) rfl (Or.inl rfl) (Or.inr rfl)) (gs_cons (g_name nd (i := 7) rfl (Or.inl rfl) (Or.inr rfl)) gs_nil))))
      (b_cons (s_set nd (i := 4) rfl (Or.inl rfl) (Or.inr rfl) (d_if (t_val (d_call (ok_is_ahead c) bd_is_ahead (hr.mono (by decide)) rfl tk (a_cons (d_var (i := 4) rfl (Or.inl rfl)) (a_cons (d_var (i := 6) rfl (Or.inl rfl)) a_nil)))) (d_var (i := 6) rfl (Or.inl rfl)) (d_var (i := 4) rfl (Or.inl rfl))))
      (b_cons (s_set nd (i := 5) rfl (Or.inl rfl) (Or.inr rfl) (d_if (t_val (d_call (ok_is_ahead c) bd_is_ahead (hr.mono (by decide)) rfl tk (a_cons (d_var (i := 7) rfl (Or.inl rfl)) (a_cons (d_var (i := 5) rfl (Or.inl rfl)) a_nil)))) (d_var (i := 7) rfl (Or.inl rfl)) (d_var (i := 5) rfl (Or.inl rfl))))
      (b_cons (s_if (t_val (d_call (ok_is_ahead c) bd_is_ahead (hr.mono (by decide)) rfl tk (a_cons (d_var (i := 5) rfl (Or.inl rfl)) (a_cons (d_var (i := 4) rfl (Or.inl rfl)) a_nil)))) (b_one (s_ret d_non)) b_nil)
      (b_one (s_ret (d_if (t_cmp (opD_eq hu) (d_var (i := 4) rfl (Or.inl rfl)) (d_var (i := 5) rfl (Or.inl rfl)) rfl) (d_tup (a_cons (d_gstr rfl c.v_AT) (a_cons (d_var (i := 4) rfl (Or.inl rfl)) a_nil))) (d_tup (a_cons (d_gstr rfl c.v_ALONG) (a_cons (d_var (i := 4) rfl (Or.inl rfl)) (a_cons (d_var (i := 5) rfl (Or.inl rfl)) a_nil))))))))))))

abbrev N_meeting_of : List Str := ["p", "q", "r", "s", "one", "other", "x", "y", "w"]
theorem sc_meeting_of : FnScope N_meeting_of ["p", "q", "r", "s"] (defScope st_meeting_of) := ⟨rfl, rfl, rfl, by decide +kernel, rfl, by decide +kernel, by decide +kernel⟩
theorem bd_meeting_of : BindOk "meeting_of" st_meeting_of ["p", "q", "r", "s"] := fun _ _ _ _ _ _ us hl => match us, hl with | [_, _, _, _], _ => rfl
noncomputable def b_meeting_of : SM :=
      (sSeq (sPar [4, 5] (aCons (mCall 3 m_turn_of (aCons (mVar 0) (aCons (mVar 1) (aCons (mVar 2) aNil)))) (aCons (mCall 3 m_turn_of (aCons (mVar 0) (aCons (mVar 1) (aCons (mVar 3) aNil)))) aNil)))
      (sSeq (sIf (bAnd (bVal (mOp eqD (mVar 4) (mC (.int 0)))) (bVal (mOp eqD (mVar 5) (mC (.int 0))))) (sRet (mCall 4 m_common_stretch (aCons (mVar 0) (aCons (mVar 1) (aCons (mVar 2) (aCons (mVar 3) aNil)))))) sNil)
      (sSeq (sIf (bOr (bVal (mOp gtD (mOp mulD (mVar 4) (mVar 5)) (mC (.int 0)))) (bVal (mOp gtD (mOp mulD (mCall 3 m_turn_of (aCons (mVar 2) (aCons (mVar 3) (aCons (mVar 0) aNil)))) (mCall 3 m_turn_of (aCons (mVar 2) (aCons (mVar 3) (aCons (mVar 1) aNil))))) (mC (.int 0))))) (sRet (mC .non)) sNil)
      (sSeq (sAsg (mCall 2 m_cross (aCons (mCall 2 m_cross (aCons (mVar 0) (aCons (mVar 1) aNil))) (aCons (mCall 2 m_cross (aCons (mVar 2) (aCons (mVar 3) aNil))) aNil))) (gT [(gN 6), (gN 7), (gN 8)]))
      (sRet (mTup (aCons (mC (.str "at")) (aCons (mCall 3 m_lowest_spot (aCons (mVar 6) (aCons (mVar 7) (aCons (mVar 8) aNil)))) aNil))))))))
noncomputable def m_meeting_of : FM := fnP N_meeting_of.length b_meeting_of
theorem ok_meeting_of (c : Fx K mg) : FD P w K mg base "meeting_of" st_meeting_of ["p", "q", "r", "s"] 4 m_meeting_of := by
    obtain ⟨f, fd, G⟩ := c.g_meeting_of
    refine (fd_mk (k := 3) G sc_meeting_of fun X W cdv A outer s H E eX eW tk hp hr => ?_)
    have hu := hr.units
    have hu65 : X.A.units + 65 < cLine := by have := hr.un; omega
    have hu1 : X.A.units + 1 < cLine := by have := hr.un; omega
    have nd := sc_meeting_of.nd
    subst eX
    exact (b_cons (s_par2 (i := 4) (j := 5) rfl nd rfl rfl (by decide) rfl rfl (a_cons (d_call (ok_turn_of c) bd_turn_of (hr.mono (by decide)) rfl tk (a_cons (d_var (i := 0) rfl (Or.inl rfl)) (a_cons (d_var (i := 1) rfl (Or.inl rfl)) (a_cons (d_var (i := 2) rfl (Or.inl rfl)) a_nil)))) (a_cons (d_call (ok_turn_of c) bd_turn_of (hr.mono (by decide)) rfl tk (a_cons (d_var (i := 0) rfl (Or.inl rfl)) (a_cons (d_var (i := 1) rfl (Or.inl rfl)) (a_cons (d_var (i := 3) rfl (Or.inl rfl)) a_nil)))) a_nil)))
      (b_cons (s_if (t_bool (w_and (t_cmp (opD_eq hu) (d_var (i := 4) rfl (Or.inl rfl)) d_int rfl) (w_and1 (t_cmp (opD_eq hu) (d_var (i := 5) rfl (Or.inl rfl)) d_int rfl)))) (b_one (s_ret (d_call (ok_common_stretch c) bd_common_stretch (hr.mono (by decide)) rfl tk (a_cons (d_var (i := 0) rfl (Or.inl rfl)) (a_cons (d_var (i := 1) rfl (Or.inl rfl)) (a_cons (d_var (i := 2) rfl (Or.inl rfl)) (a_cons (d_var (i := 3) rfl (Or.inl rfl)) a_nil))))))) b_nil)
      (b_cons (s_if (t_bool (w_or (t_cmp opD_gt (d_bin opD_mul (d_var (i := 4) rfl (Or.inl rfl)) (d_var (i := 5) rfl (Or.inl rfl))) d_int rfl) (w_or1 (t_cmp opD_gt (d_bin opD_mul (d_call (ok_turn_of c) bd_turn_of (hr.mono (by decide)) rfl tk (a_cons (d_var (i := 2) rfl (Or.inl rfl)) (a_cons (d_var (i := 3) rfl (Or.inl rfl)) (a_cons (d_var (i := 0) rfl (Or.inl rfl)) a_nil)))) (d_call (ok_turn_of c) bd_turn_of (hr.mono (by decide)) rfl tk (a_cons (d_var (i := 2) rfl (Or.inl rfl)) (a_cons (d_var (i := 3) rfl (Or.inl rfl)) (a_cons (d_var (i := 1) rfl (Or.inl rfl)) a_nil))))) d_int rfl)))) (b_one (s_ret d_non)) b_nil)
      (b_cons (s_asg (d_call (ok_cross c) bd_cross (hr.mono (by decide)) rfl tk (a_cons (d_call (ok_cross c) bd_cross (hr.mono (by decide)) rfl tk (a_cons (d_var (i := 0) rfl (Or.inl rfl)) (a_cons (d_var (i := 1) rfl (Or.inl rfl)) a_nil))) (a_cons (d_call (ok_cross c) bd_cross (hr.mono (by decide)) rfl tk (a_cons (d_var (i := 2) rfl (Or.inl rfl)) (a_cons (d_var (i := 3) rfl (Or.inl rfl)) a_nil))) a_nil))) (g_tup rfl (gs_cons (g_name nd (i := 6) rfl (Or.inl rfl) (Or.inr rfl)) (gs_cons (g_name nd (i := 7) rfl (Or.inl rfl) (Or.inr rfl)) (gs_cons (g_name nd (i := 8) rfl (Or.inl rfl) (Or.inr rfl)) gs_nil)))))
      (b_one (s_ret (d_tup (a_cons (d_gstr rfl c.v_AT) (a_cons (d_call (ok_lowest_spot c) bd_lowest_spot (hr.mono (by decide)) rfl tk (a_cons (d_var (i := 6) rfl (Or.inl rfl)) (a_cons (d_var (i := 7) rfl (Or.inl rfl)) (a_cons (d_var (i := 8) rfl (Or.inl rfl)) a_nil)))) a_nil)))))))))

abbrev N_meeting : List Str := ["p", "q", "r", "s", "ends"]
theorem sc_meeting : FnScope N_meeting ["p", "q", "r", "s"] (defScope st_meeting) := ⟨rfl, rfl, rfl, by decide +kernel, rfl, by decide +kernel, by decide +kernel⟩
theorem bd_meeting : BindOk "meeting" st_meeting ["p", "q", "r", "s"] := fun _ _ _ _ _ _ us hl => match us, hl with | [_, _, _, _], _ => rfl
noncomputable def b_meeting : SM :=
      (sSeq (sDrop (mCall 1 m_need_spots (aCons (mTup (aCons (mVar 0) (aCons (mVar 1) (aCons (mVar 2) (aCons (mVar 3) aNil))))) aNil)))
      (sSeq (sFor (iSeq (mTup (aCons (mTup (aCons (mVar 0) (aCons (mVar 1) aNil))) (aCons (mTup (aCons (mVar 2) (aCons (mVar 3) aNil))) aNil)))) (gN 4) (sIf (bVal (mOp eqD (mOp ixD (mVar 4) (mC (.int 0))) (mOp ixD (mVar 4) (mC (.int 1))))) sBad sNil))
      (sRet (mCall 4 m_meeting_of (aCons (mVar 0) (aCons (mVar 1) (aCons (mVar 2) (aCons (mVar 3) aNil))))))))
noncomputable def m_meeting : FM := fnP N_meeting.length b_meeting
theorem ok_meeting (c : Fx K mg) : FD P w K mg base "meeting" st_meeting ["p", "q", "r", "s"] 6 m_meeting := by
    obtain ⟨f, fd, G⟩ := c.g_meeting
    refine (fd_mk (k := 5) G sc_meeting fun X W cdv A outer s H E eX eW tk hp hr => ?_)
    have hu := hr.units
    have hu65 : X.A.units + 65 < cLine := by have := hr.un; omega
    have hu1 : X.A.units + 1 < cLine := by have := hr.un; omega
    have nd := sc_meeting.nd
    subst eX
    exact (b_cons (s_drop (d_call (ok_need_spots c) bd_need_spots (hr.mono (by decide)) rfl tk (a_cons (d_tup (a_cons (d_var (i := 0) rfl (Or.inl rfl)) (a_cons (d_var (i := 1) rfl (Or.inl rfl)) (a_cons (d_var (i := 2) rfl (Or.inl rfl)) (a_cons (d_var (i := 3) rfl (Or.inl rfl)) a_nil))))) a_nil)))
      (b_cons (s_for hp rfl (i_seq (d_tup (a_cons (d_tup (a_cons (d_var (i := 0) rfl (Or.inl rfl)) (a_cons (d_var (i := 1) rfl (Or.inl rfl)) a_nil))) (a_cons (d_tup (a_cons (d_var (i := 2) rfl (Or.inl rfl)) (a_cons (d_var (i := 3) rfl (Or.inl rfl)) a_nil))) a_nil)))) (g_name nd (i := 4) rfl (Or.inl rfl) (Or.inr rfl)) (b_one (s_if (t_cmp (opD_eq hu) (d_ix hu1 (d_var (i := 4) rfl (Or.inl rfl)) d_int (fun _ _ => rfl)) (d_ix hu1 (d_var (i := 4) rfl (Or.inl rfl)) d_int (fun _ _ => rfl)) rfl) (b_one s_bad) b_nil)))
      (b_one (s_ret (d_call (ok_meeting_of c) bd_meeting_of (hr.mono (by decide)) rfl tk (a_cons (d_var (i := 0) rfl (Or.inl rfl)) (a_cons (d_var (i := 1) rfl (Or.inl rfl)) (a_cons (d_var (i := 2) rfl (Or.inl rfl)) (a_cons (d_var (i := 3) rfl (Or.inl rfl)) a_nil)))))))))

abbrev N__law_deck : List Str := ["script", "mixed", "cell"]
theorem sc__law_deck : FnScope N__law_deck ["script"] (defScope st__law_deck) := ⟨rfl, rfl, rfl, by decide +kernel, rfl, by decide +kernel, by decide +kernel⟩
theorem bd__law_deck : BindOk "_law_deck" st__law_deck ["script"] := fun _ _ _ _ _ _ us hl => match us, hl with | [_], _ => rfl
noncomputable def b__law_deck : SM :=
      (sSeq (sAsg (mC (.int 15374020)) (gN 1))
      (sSeq (sFor (iSeq (mSl (mVar 0) oNone (oSome (mC (.int 63))))) (gN 2) (sAsg (mOp modD (mB intfD (aCons (mOp addD (mOp addD (mOp mulD (mVar 1) (mC (.int 40692))) (mOp modD (mB intfD (aCons (mVar 2) aNil)) (mC (.int 2147483563)))) (mC (.int 31))) aNil)) (mC (.int 2147483629))) (gN 1)))
      (sRet (mDict (pCons (mC (.str "left")) (mRevN (mLc (iSeq (mSl (mVar 0) oNone (oSome (mC (.int 63))))) (gN 2) bYes (mB intfD (aCons (mVar 2) aNil)) [2])) (pCons (mC (.str "mixed")) (mVar 1) (pCons (mC (.str "draws")) (mC (.int 0)) pNil)))))))
noncomputable def m__law_deck : FM := fnP N__law_deck.length b__law_deck
theorem ok__law_deck (c : Fx K mg) : FD P w K mg base "_law_deck" st__law_deck ["script"] 1 m__law_deck := by
    obtain ⟨f, fd, G⟩ := c.g__law_deck
    refine (fd_mk (k := 0) G sc__law_deck fun X W cdv A outer s H E eX eW tk hp hr => ?_)
    have hu := hr.units
    have hu65 : X.A.units + 65 < cLine := by have := hr.un; omega
    have hu1 : X.A.units + 1 < cLine := by have := hr.un; omega
    have nd := sc__law_deck.nd
    subst eX
    exact (b_cons (s_set nd (i := 1) rfl (Or.inl rfl) (Or.inr rfl) d_int)
      (b_cons (s_for hp rfl (i_seq (d_sl (d_var (i := 0) rfl (Or.inl rfl)) o_none (o_some d_int))) (g_name nd (i := 2) rfl (Or.inl rfl) (Or.inr rfl)) (b_one (s_set nd (i := 1) rfl (Or.inl rfl) (Or.inr rfl) (d_bin opD_mod (d_Ty (cD_int) rfl c.n_int bt_int (a_cons (d_bin opD_add (d_bin opD_add (d_bin opD_mul (d_var (i := 1) rfl (Or.inl rfl)) d_int) (d_bin opD_mod (d_Ty (cD_int) rfl c.n_int bt_int (a_cons (d_var (i := 2) rfl (Or.inl rfl)) a_nil)) d_int)) d_int) a_nil)) d_int))))
      (b_one (s_ret (d_dict (p_cons d_str (d_revN (d_lc rfl nd (i_seq (d_sl (d_var (i := 0) rfl (Or.inl rfl)) o_none (o_some d_int))) (blkOk_by (own := [("cell", 2)]) (by kernel_rfl)) (by decide) (fun s H C cl fp => (g_name nd (i := 2) rfl (Or.inl rfl) (Or.inr rfl))) (fun s H C cl fp => ts_nil) (fun s H C cl fp => (d_Ty (cD_int) rfl c.n_int bt_int (a_cons (d_var (i := 2) rfl (Or.inl rfl)) a_nil))))) (p_cons d_str (d_var (i := 1) rfl (Or.inl rfl)) (p_cons d_str d_int p_nil))))))))

abbrev N__law_draw : List Str := ["deck", "many", "figure", "cell"]
theorem sc__law_draw : FnScope N__law_draw ["deck", "many"] (defScope st__law_draw) := ⟨rfl, rfl, rfl, by decide +kernel, rfl, by decide +kernel, by decide +kernel⟩
theorem bd__law_draw : BindOk "_law_draw" st__law_draw ["deck", "many"] := fun _ _ _ _ _ _ us hl => match us, hl with | [_, _], _ => rfl
noncomputable def b__law_draw : SM :=
      (sSeq (sAsg (mOp addD (mOp ixD (mVar 0) (mC (.str "draws"))) (mC (.int 1))) (gSet (mVar 0) (mC (.str "draws"))))
      (sSeq (sAsg (mOp addD (mOp ixD (mVar 0) (mC (.str "mixed"))) (mOp mulD (mC (.int 47367)) (mOp ixD (mVar 0) (mC (.str "draws"))))) (gN 2))
      (sSeq (sIf (bVal (mOp neD (mOp ixD (mVar 0) (mC (.str "left"))) (mLst aNil))) (sSeq (sAsg (mM "list" popD (mOp ixD (mVar 0) (mC (.str "left"))) aNil) (gN 3))
      (sSeq (sIf (bVal (mOp geD (mVar 3) (mOp powD (mC (.int 10)) (mC (.int 18))))) (sSeq (sDrop (mM "list" appD (mOp ixD (mVar 0) (mC (.str "left"))) (aCons (mOp fdivD (mVar 3) (mB max2D (aCons (mC (.int 2)) (aCons (mVar 1) aNil)))) aNil)))
      (sRet (mOp modD (mB intfD (aCons (mVar 3) aNil)) (mVar 1)))) sNil)
      (sAsg (mOp addD (mVar 2) (mOp modD (mB intfD (aCons (mVar 3) aNil)) (mC (.int 2147483563)))) (gN 2)))) sNil)
      (sSeq (sAsg (mOp modD (mB intfD (aCons (mOp addD (mOp mulD (mVar 2) (mC (.int 39373))) (mC (.int 43))) aNil)) (mC (.int 2147483647))) (gN 2))
      (sSeq (sAsg (mOp modD (mB intfD (aCons (mOp addD (mOp addD (mOp mulD (mVar 2) (mVar 2)) (mOp mulD (mC (.int 53881)) (mOp ixD (mVar 0) (mC (.str "draws"))))) (mC (.int 17))) aNil)) (mC (.int 2147483587))) (gN 2))
      (sSeq (sAsg (mOp modD (mB intfD (aCons (mOp mulD (mVar 2) (mC (.int 48271))) aNil)) (mC (.int 2147483629))) (gN 2))
      (sRet (mOp modD (mB intfD (aCons (mOp fdivD (mVar 2) (mC (.int 64))) aNil)) (mVar 1)))))))))
noncomputable def m__law_draw : FM := fnP N__law_draw.length b__law_draw
theorem ok__law_draw (c : Fx K mg) : FD P w K mg base "_law_draw" st__law_draw ["deck", "many"] 1 m__law_draw := by
    obtain ⟨f, fd, G⟩ := c.g__law_draw
    refine (fd_mk (k := 0) G sc__law_draw fun X W cdv A outer s H E eX eW tk hp hr => ?_)
    have hu := hr.units
    have hu65 : X.A.units + 65 < cLine := by have := hr.un; omega
    have hu1 : X.A.units + 1 < cLine := by have := hr.un; omega
    have nd := sc__law_draw.nd
    subst eX
    exact (b_cons (s_asg (d_bin opD_add (d_ix hu1 (d_var (i := 0) rfl (Or.inl rfl)) d_str (fun _ _ => rfl)) d_int) (g_set hu1 (d_var (i := 0) rfl (Or.inl rfl)) d_str))
      (b_cons (s_set nd (i := 2) rfl (Or.inl rfl) (Or.inr rfl) (d_bin opD_add (d_ix hu1 (d_var (i := 0) rfl (Or.inl rfl)) d_str (fun _ _ => rfl)) (d_bin opD_mul d_int (d_ix hu1 (d_var (i := 0) rfl (Or.inl rfl)) d_str (fun _ _ => rfl)))))
      (b_cons (s_if (t_cmp (opD_ne hu) (d_ix hu1 (d_var (i := 0) rfl (Or.inl rfl)) d_str (fun _ _ => rfl)) (d_lst a_nil) rfl) (b_cons (s_set nd (i := 3) rfl (Or.inl rfl) (Or.inr rfl) (d_bm0 PySem.F.plainAttrs_list PySem.F.slot_list_pop PySem.F.type_list_pop mD_pop (d_ix hu1 (d_var (i := 0) rfl (Or.inl rfl)) d_str (fun _ _ => rfl))))
      (b_cons (s_if (t_cmp opD_ge (d_var (i := 3) rfl (Or.inl rfl)) (d_bin opD_pow d_int d_int) rfl) (b_cons (s_drop (d_bm PySem.F.plainAttrs_list PySem.F.slot_list_append PySem.F.type_list_append mD_app (d_ix hu1 (d_var (i := 0) rfl (Or.inl rfl)) d_str (fun _ _ => rfl)) (a_cons (d_bin opD_fdiv (d_var (i := 3) rfl (Or.inl rfl)) (d_B (cD_max2 rfl) rfl c.n_max bt_max (a_cons d_int (a_cons (d_var (i := 1) rfl (Or.inl rfl)) a_nil)))) a_nil)))
      (b_one (s_ret (d_bin opD_mod (d_Ty (cD_int) rfl c.n_int bt_int (a_cons (d_var (i := 3) rfl (Or.inl rfl)) a_nil)) (d_var (i := 1) rfl (Or.inl rfl)))))) b_nil)
      (b_one (s_set nd (i := 2) rfl (Or.inl rfl) (Or.inr rfl) (d_bin opD_add (d_var (i := 2) rfl (Or.inl rfl)) (d_bin opD_mod (d_Ty (cD_int) rfl c.n_int bt_int (a_cons (d_var (i := 3) rfl (Or.inl rfl)) a_nil)) d_int)))))) b_nil)
      (b_cons (s_set nd (i := 2) rfl (Or.inl rfl) (Or.inr rfl) (d_bin opD_mod (d_Ty (cD_int) rfl c.n_int bt_int (a_cons (d_bin opD_add (d_bin opD_mul (d_var (i := 2) rfl (Or.inl rfl)) d_int) d_int) a_nil)) d_int))
      (b_cons (s_set nd (i := 2) rfl (Or.inl rfl) (Or.inr rfl) (d_bin opD_mod (d_Ty (cD_int) rfl c.n_int bt_int (a_cons (d_bin opD_add (d_bin opD_add (d_bin opD_mul (d_var (i := 2) rfl (Or.inl rfl)) (d_var (i := 2) rfl (Or.inl rfl))) (d_bin opD_mul d_int (d_ix hu1 (d_var (i := 0) rfl (Or.inl rfl)) d_str (fun _ _ => rfl)))) d_int) a_nil)) d_int))
      (b_cons (s_set nd (i := 2) rfl (Or.inl rfl) (Or.inr rfl) (d_bin opD_mod (d_Ty (cD_int) rfl c.n_int bt_int (a_cons (d_bin opD_mul (d_var (i := 2) rfl (Or.inl rfl)) d_int) a_nil)) d_int))
      (b_one (s_ret (d_bin opD_mod (d_Ty (cD_int) rfl c.n_int bt_int (a_cons (d_bin opD_fdiv (d_var (i := 2) rfl (Or.inl rfl)) d_int) a_nil)) (d_var (i := 1) rfl (Or.inl rfl)))))))))))

abbrev N__law_pick : List Str := ["deck", "some"]
theorem sc__law_pick : FnScope N__law_pick ["deck", "some"] (defScope st__law_pick) := ⟨rfl, rfl, rfl, by decide +kernel, rfl, by decide +kernel, by decide +kernel⟩
theorem bd__law_pick : BindOk "_law_pick" st__law_pick ["deck", "some"] := fun _ _ _ _ _ _ us hl => match us, hl with | [_, _], _ => rfl
noncomputable def b__law_pick : SM :=
      (sRet (mOp ixD (mVar 1) (mCall 2 m__law_draw (aCons (mVar 0) (aCons (mB lenD (aCons (mVar 1) aNil)) aNil)))))
noncomputable def m__law_pick : FM := fnP N__law_pick.length b__law_pick
theorem ok__law_pick (c : Fx K mg) : FD P w K mg base "_law_pick" st__law_pick ["deck", "some"] 2 m__law_pick := by
    obtain ⟨f, fd, G⟩ := c.g__law_pick
    refine (fd_mk (k := 1) G sc__law_pick fun X W cdv A outer s H E eX eW tk hp hr => ?_)
    have hu := hr.units
    have hu65 : X.A.units + 65 < cLine := by have := hr.un; omega
    have hu1 : X.A.units + 1 < cLine := by have := hr.un; omega
    have nd := sc__law_pick.nd
    subst eX
    exact (b_one (s_ret (d_ix hu1 (d_var (i := 1) rfl (Or.inl rfl)) (d_call (ok__law_draw c) bd__law_draw (hr.mono (by decide)) rfl tk (a_cons (d_var (i := 0) rfl (Or.inl rfl)) (a_cons (d_B (cD_len) rfl c.n_len bt_len (a_cons (d_var (i := 1) rfl (Or.inl rfl)) a_nil)) a_nil))) (fun _ _ => rfl))))

abbrev N__law_far : List Str := ["deck", "many"]
theorem sc__law_far : FnScope N__law_far ["deck", "many"] (defScope st__law_far) := ⟨rfl, rfl, rfl, by decide +kernel, rfl, by decide +kernel, by decide +kernel⟩
theorem bd__law_far : BindOk "_law_far" st__law_far ["deck", "many"] := fun _ _ _ _ _ _ us hl => match us, hl with | [_, _], _ => rfl
noncomputable def b__law_far : SM :=
      (sRet (mOp modD (mB intfD (aCons (mOp addD (mOp addD (mOp shlD (mCall 2 m__law_draw (aCons (mVar 0) (aCons (mC (.int 1048576)) aNil))) (mC (.int 40))) (mOp shlD (mCall 2 m__law_draw (aCons (mVar 0) (aCons (mC (.int 1048576)) aNil))) (mC (.int 20)))) (mCall 2 m__law_draw (aCons (mVar 0) (aCons (mC (.int 1048576)) aNil)))) aNil)) (mVar 1)))
noncomputable def m__law_far : FM := fnP N__law_far.length b__law_far
theorem ok__law_far (c : Fx K mg) : FD P w K mg base "_law_far" st__law_far ["deck", "many"] 2 m__law_far := by
    obtain ⟨f, fd, G⟩ := c.g__law_far
    refine (fd_mk (k := 1) G sc__law_far fun X W cdv A outer s H E eX eW tk hp hr => ?_)
    have hu := hr.units
    have hu65 : X.A.units + 65 < cLine := by have := hr.un; omega
    have hu1 : X.A.units + 1 < cLine := by have := hr.un; omega
    have nd := sc__law_far.nd
    subst eX
    exact (b_one (s_ret (d_bin opD_mod (d_Ty (cD_int) rfl c.n_int bt_int (a_cons (d_bin opD_add (d_bin opD_add (d_bin opD_shl (d_call (ok__law_draw c) bd__law_draw (hr.mono (by decide)) rfl tk (a_cons (d_var (i := 0) rfl (Or.inl rfl)) (a_cons d_int a_nil))) d_int) (d_bin opD_shl (d_call (ok__law_draw c) bd__law_draw (hr.mono (by decide)) rfl tk (a_cons (d_var (i := 0) rfl (Or.inl rfl)) (a_cons d_int a_nil))) d_int)) (d_call (ok__law_draw c) bd__law_draw (hr.mono (by decide)) rfl tk (a_cons (d_var (i := 0) rfl (Or.inl rfl)) (a_cons d_int a_nil)))) a_nil)) (d_var (i := 1) rfl (Or.inl rfl)))))

abbrev N__law_is_bool : List Str := ["told", "due"]
theorem sc__law_is_bool : FnScope N__law_is_bool ["told", "due"] (defScope st__law_is_bool) := ⟨rfl, rfl, rfl, by decide +kernel, rfl, by decide +kernel, by decide +kernel⟩
theorem bd__law_is_bool : BindOk "_law_is_bool" st__law_is_bool ["told", "due"] := fun _ _ _ _ _ _ us hl => match us, hl with | [_, _], _ => rfl
noncomputable def b__law_is_bool : SM :=
      (sRet (mIf (bVal (mVar 1)) (mOp isD (mVar 0) (mC (.bl true))) (mOp isD (mVar 0) (mC (.bl false)))))
noncomputable def m__law_is_bool : FM := fnP N__law_is_bool.length b__law_is_bool
theorem ok__law_is_bool (c : Fx K mg) : FD P w K mg base "_law_is_bool" st__law_is_bool ["told", "due"] 1 m__law_is_bool := by
    obtain ⟨f, fd, G⟩ := c.g__law_is_bool
    refine (fd_mk (k := 0) G sc__law_is_bool fun X W cdv A outer s H E eX eW tk hp hr => ?_)
    have hu := hr.units
    have hu65 : X.A.units + 65 < cLine := by have := hr.un; omega
    have hu1 : X.A.units + 1 < cLine := by have := hr.un; omega
    have nd := sc__law_is_bool.nd
    subst eX
    exact (b_one (s_ret (d_if (t_val (d_var (i := 1) rfl (Or.inl rfl))) (d_cmp opD_is (d_var (i := 0) rfl (Or.inl rfl)) d_bl rfl) (d_cmp opD_is (d_var (i := 0) rfl (Or.inl rfl)) d_bl rfl))))

abbrev N__law_same : List Str := ["told", "due", "one", "other"]
theorem sc__law_same : FnScope N__law_same ["told", "due"] (defScope st__law_same) := ⟨rfl, rfl, rfl, by decide +kernel, rfl, by decide +kernel, by decide +kernel⟩
theorem bd__law_same : BindOk "_law_same" st__law_same ["told", "due"] := fun _ _ _ _ _ _ us hl => match us, hl with | [_, _], _ => rfl
noncomputable def b__law_same (mr : FM) : SM :=
      (sSeq (sIf (bVal (mB isiD (aCons (mVar 1) (aCons (mC (.ty "tuple")) aNil)))) (sSeq (sIf (bOr (bNot (bVal (mB isiD (aCons (mVar 0) (aCons (mC (.ty "tuple")) aNil))))) (bVal (mOp neD (mB lenD (aCons (mVar 0) aNil)) (mB lenD (aCons (mVar 1) aNil))))) (sRet (mC (.bl false))) sNil)
      (sRet (mOp eqD (mLc (iZipD (aCons (mVar 0) (aCons (mVar 1) aNil))) (gT [(gN 2), (gN 3)]) (bNot (bVal (mCall 2 mr (aCons (mVar 2) (aCons (mVar 3) aNil))))) (mC (.int 1)) [2, 3]) (mLst aNil)))) sNil)
      (sSeq (sIf (bOr (bVal (mOp isD (mVar 1) (mC .non))) (bVal (mB isiD (aCons (mVar 1) (aCons (mC (.ty "bool")) aNil))))) (sRet (mIf (bVal (mOp isD (mVar 1) (mC .non))) (mOp isD (mVar 0) (mC .non)) (mCall 2 m__law_is_bool (aCons (mVar 0) (aCons (mVar 1) aNil))))) sNil)
      (sSeq (sIf (bVal (mB isiD (aCons (mVar 1) (aCons (mC (.ty "int")) aNil)))) (sRet (mAnd (mB isiD (aCons (mVar 0) (aCons (mC (.ty "int")) aNil))) (mAnd (mNot (mB isiD (aCons (mVar 0) (aCons (mC (.ty "bool")) aNil)))) (mOp eqD (mVar 0) (mVar 1))))) sNil)
      (sRet (mAnd (mB isiD (aCons (mVar 0) (aCons (mC (.ty "str")) aNil))) (mOp eqD (mVar 0) (mVar 1)))))))
noncomputable def m__law_same : Nat → FM
  | 0 => fnP N__law_same.length sBad
  | k + 1 => fnP N__law_same.length (b__law_same (m__law_same k))
theorem ok__law_same (c : Fx K mg) : ∀ n : Nat, FD P w K mg base "_law_same" st__law_same ["told", "due"] (n + 2) (m__law_same n)
  | 0 => by
    obtain ⟨f, fd, G⟩ := c.g__law_same
    exact (fd_mk (k := 1) G sc__law_same fun X W cdv A outer s H E eX eW tk hp hr => b_bad)
  | k + 1 => by
    have ih := ok__law_same c k
    obtain ⟨f, fd, G⟩ := c.g__law_same
    refine (fd_mk (k := k + 2) G sc__law_same fun X W cdv A outer s H E eX eW tk hp hr => ?_)
    have hu := hr.units
    have hu65 : X.A.units + 65 < cLine := by have := hr.un; omega
    have hu1 : X.A.units + 1 < cLine := by have := hr.un; omega
    have nd := sc__law_same.nd
    subst eX
    exact (b_cons (s_if (t_val (d_B (cD_isi) rfl c.n_isinstance bt_isinstance (a_cons (d_var (i := 1) rfl (Or.inl rfl)) (a_cons (d_ty rfl c.n_tuple bt_tuple) a_nil)))) (b_cons (s_if (t_bool (w_or (t_not (t_val (d_B (cD_isi) rfl c.n_isinstance bt_isinstance (a_cons (d_var (i := 0) rfl (Or.inl rfl)) (a_cons (d_ty rfl c.n_tuple bt_tuple) a_nil))))) (w_or1 (t_cmp (opD_ne hu) (d_B (cD_len) rfl c.n_len bt_len (a_cons (d_var (i := 0) rfl (Or.inl rfl)) a_nil)) (d_B (cD_len) rfl c.n_len bt_len (a_cons (d_var (i := 1) rfl (Or.inl rfl)) a_nil)) rfl)))) (b_one (s_ret d_bl)) b_nil)
      (b_one (s_ret (d_cmp (opD_eq hu) (d_lc rfl nd (i_zip (by rfl) c.n_zip (a_cons (d_var (i := 0) rfl (Or.inl rfl)) (a_cons (d_var (i := 1) rfl (Or.inl rfl)) a_nil))) (blkOk_by (own := [("one", 2), ("other", 3)]) (by kernel_rfl)) (by decide) (fun s H C cl fp => (g_tup rfl (gs_cons (g_name nd (i := 2) rfl (Or.inl rfl) (Or.inr rfl)) (gs_cons (g_name nd (i := 3) rfl (Or.inl rfl) (Or.inr rfl)) gs_nil)))) (fun s H C cl fp => (ts_one (t_not (t_val (d_call ih bd__law_same hr rfl takesW0 (a_cons (d_var (i := 2) rfl (Or.inl rfl)) (a_cons (d_var (i := 3) rfl (Or.inl rfl)) a_nil))))))) (fun s H C cl fp => d_int)) (d_lst a_nil) rfl)))) b_nil)
      (b_cons (s_if (t_bool (w_or (t_cmp opD_is (d_var (i := 1) rfl (Or.inl rfl)) d_non rfl) (w_or1 (t_val (d_B (cD_isi) rfl c.n_isinstance bt_isinstance (a_cons (d_var (i := 1) rfl (Or.inl rfl)) (a_cons (d_ty rfl c.n_bool bt_bool) a_nil))))))) (b_one (s_ret (d_if (t_cmp opD_is (d_var (i := 1) rfl (Or.inl rfl)) d_non rfl) (d_cmp opD_is (d_var (i := 0) rfl (Or.inl rfl)) d_non rfl) (d_call (ok__law_is_bool c) bd__law_is_bool (hr.mono (by omega)) rfl tk (a_cons (d_var (i := 0) rfl (Or.inl rfl)) (a_cons (d_var (i := 1) rfl (Or.inl rfl)) a_nil)))))) b_nil)
      (b_cons (s_if (t_val (d_B (cD_isi) rfl c.n_isinstance bt_isinstance (a_cons (d_var (i := 1) rfl (Or.inl rfl)) (a_cons (d_ty rfl c.n_int bt_int) a_nil)))) (b_one (s_ret (d_and (d_B (cD_isi) rfl c.n_isinstance bt_isinstance (a_cons (d_var (i := 0) rfl (Or.inl rfl)) (a_cons (d_ty rfl c.n_int bt_int) a_nil))) (d_and (d_not (d_B (cD_isi) rfl c.n_isinstance bt_isinstance (a_cons (d_var (i := 0) rfl (Or.inl rfl)) (a_cons (d_ty rfl c.n_bool bt_bool) a_nil)))) (d_one (d_cmp (opD_eq hu) (d_var (i := 0) rfl (Or.inl rfl)) (d_var (i := 1) rfl (Or.inl rfl)) rfl)))))) b_nil)
      (b_one (s_ret (d_and (d_B (cD_isi) rfl c.n_isinstance bt_isinstance (a_cons (d_var (i := 0) rfl (Or.inl rfl)) (a_cons (d_ty rfl c.n_str bt_str) a_nil))) (d_one (d_cmp (opD_eq hu) (d_var (i := 0) rfl (Or.inl rfl)) (d_var (i := 1) rfl (Or.inl rfl)) rfl))))))))

abbrev N__law_gcd : List Str := ["one", "other"]
theorem sc__law_gcd : FnScope N__law_gcd ["one", "other"] (defScope st__law_gcd) := ⟨rfl, rfl, rfl, by decide +kernel, rfl, by decide +kernel, by decide +kernel⟩
theorem bd__law_gcd : BindOk "_law_gcd" st__law_gcd ["one", "other"] := fun _ _ _ _ _ _ us hl => match us, hl with | [_, _], _ => rfl
noncomputable def b__law_gcd : SM :=
      (sSeq (sPar [0, 1] (aCons (mB absD (aCons (mVar 0) aNil)) (aCons (mB absD (aCons (mVar 1) aNil)) aNil)))
      (sSeq (sWhile (bVal (mOp gtD (mVar 1) (mC (.int 0)))) (sPar [0, 1] (aCons (mVar 1) (aCons (mOp modD (mB intfD (aCons (mVar 0) aNil)) (mVar 1)) aNil))))
      (sRet (mVar 0))))
noncomputable def m__law_gcd : FM := fnP N__law_gcd.length b__law_gcd
theorem ok__law_gcd (c : Fx K mg) : FD P w K mg base "_law_gcd" st__law_gcd ["one", "other"] 1 m__law_gcd := by
    obtain ⟨f, fd, G⟩ := c.g__law_gcd
    refine (fd_mk (k := 0) G sc__law_gcd fun X W cdv A outer s H E eX eW tk hp hr => ?_)
    have hu := hr.units
    have hu65 : X.A.units + 65 < cLine := by have := hr.un; omega
    have hu1 : X.A.units + 1 < cLine := by have := hr.un; omega
    have nd := sc__law_gcd.nd
    subst eX
    exact (b_cons (s_par2 (i := 0) (j := 1) rfl nd rfl rfl (by decide) rfl rfl (a_cons (d_B (cD_abs) rfl c.n_abs bt_abs (a_cons (d_var (i := 0) rfl (Or.inl rfl)) a_nil)) (a_cons (d_B (cD_abs) rfl c.n_abs bt_abs (a_cons (d_var (i := 1) rfl (Or.inl rfl)) a_nil)) a_nil)))
      (b_cons (s_while hp (t_cmp opD_gt (d_var (i := 1) rfl (Or.inl rfl)) d_int rfl) (b_one (s_par2 (i := 0) (j := 1) rfl nd rfl rfl (by decide) rfl rfl (a_cons (d_var (i := 1) rfl (Or.inl rfl)) (a_cons (d_bin opD_mod (d_Ty (cD_int) rfl c.n_int bt_int (a_cons (d_var (i := 0) rfl (Or.inl rfl)) a_nil)) (d_var (i := 1) rfl (Or.inl rfl))) a_nil)))))
      (b_one (s_ret (d_var (i := 0) rfl (Or.inl rfl))))))

abbrev N__law_spot : List Str := ["x", "y", "w", "by"]
theorem sc__law_spot : FnScope N__law_spot ["x", "y", "w"] (defScope st__law_spot) := ⟨rfl, rfl, rfl, by decide +kernel, rfl, by decide +kernel, by decide +kernel⟩
theorem bd__law_spot : BindOk "_law_spot" st__law_spot ["x", "y", "w"] := fun _ _ _ _ _ _ us hl => match us, hl with | [_, _, _], _ => rfl
noncomputable def b__law_spot : SM :=
      (sSeq (sIf (bVal (mOp ltD (mVar 2) (mC (.int 0)))) (sPar [0, 1, 2] (aCons (mUn negD (mVar 0)) (aCons (mUn negD (mVar 1)) (aCons (mUn negD (mVar 2)) aNil)))) sNil)
      (sSeq (sAsg (mCall 2 m__law_gcd (aCons (mCall 2 m__law_gcd (aCons (mVar 0) (aCons (mVar 1) aNil))) (aCons (mVar 2) aNil))) (gN 3))
      (sRet (mTup (aCons (mOp fdivD (mVar 0) (mVar 3)) (aCons (mOp fdivD (mVar 1) (mVar 3)) (aCons (mOp fdivD (mVar 2) (mVar 3)) aNil)))))))
noncomputable def m__law_spot : FM := fnP N__law_spot.length b__law_spot
theorem ok__law_spot (c : Fx K mg) : FD P w K mg base "_law_spot" st__law_spot ["x", "y", "w"] 2 m__law_spot := by
    obtain ⟨f, fd, G⟩ := c.g__law_spot
    refine (fd_mk (k := 1) G sc__law_spot fun X W cdv A outer s H E eX eW tk hp hr => ?_)
    have hu := hr.units
    have hu65 : X.A.units + 65 < cLine := by have := hr.un; omega
    have hu1 : X.A.units + 1 < cLine := by have := hr.un; omega
    have nd := sc__law_spot.nd
    subst eX
    exact (b_cons (s_if (t_cmp opD_lt (d_var (i := 2) rfl (Or.inl rfl)) d_int rfl) (b_one (s_par3 (i := 0) (j := 1) (l := 2) rfl nd rfl rfl rfl (by decide) (by decide) (by decide) rfl rfl rfl (a_cons (d_un unD_neg (d_var (i := 0) rfl (Or.inl rfl))) (a_cons (d_un unD_neg (d_var (i := 1) rfl (Or.inl rfl))) (a_cons (d_un unD_neg (d_var (i := 2) rfl (Or.inl rfl))) a_nil))))) b_nil)
      (b_cons (s_set nd (i := 3) rfl (Or.inl rfl) (Or.inr rfl) (d_call (ok__law_gcd c) bd__law_gcd (hr.mono (by decide)) rfl tk (a_cons (d_call (ok__law_gcd c) bd__law_gcd (hr.mono (by decide)) rfl tk (a_cons (d_var (i := 0) rfl (Or.inl rfl)) (a_cons (d_var (i := 1) rfl (Or.inl rfl)) a_nil))) (a_cons (d_var (i := 2) rfl (Or.inl rfl)) a_nil))))
      (b_one (s_ret (d_tup (a_cons (d_bin opD_fdiv (d_var (i := 0) rfl (Or.inl rfl)) (d_var (i := 3) rfl (Or.inl rfl))) (a_cons (d_bin opD_fdiv (d_var (i := 1) rfl (Or.inl rfl)) (d_var (i := 3) rfl (Or.inl rfl))) (a_cons (d_bin opD_fdiv (d_var (i := 2) rfl (Or.inl rfl)) (d_var (i := 3) rfl (Or.inl rfl))) a_nil))))))))

abbrev N__law_number : List Str := ["deck", "most", "way"]
theorem sc__law_number : FnScope N__law_number ["deck", "most"] (defScope st__law_number) := ⟨rfl, rfl, rfl, by decide +kernel, rfl, by decide +kernel, by decide +kernel⟩
theorem bd__law_number : BindOk "_law_number" st__law_number ["deck", "most"] := fun _ _ _ _ _ _ us hl => match us, hl with | [_, _], _ => rfl
noncomputable def b__law_number : SM :=
      (sSeq (sAsg (mCall 2 m__law_draw (aCons (mVar 0) (aCons (mC (.int 8)) aNil))) (gN 2))
      (sSeq (sIf (bVal (mOp eqD (mVar 2) (mC (.int 0)))) (sRet (mCall 2 m__law_pick (aCons (mVar 0) (aCons (mTup (aCons (mC (.int 0)) (aCons (mC (.int 1)) (aCons (mUn negD (mC (.int 1))) (aCons (mVar 1) (aCons (mUn negD (mVar 1)) (aCons (mOp subD (mVar 1) (mC (.int 1))) (aCons (mOp subD (mC (.int 1)) (mVar 1)) (aCons (mC (.int 0)) aNil))))))))) aNil)))) sNil)
      (sRet (mOp subD (mCall 2 m__law_far (aCons (mVar 0) (aCons (mOp addD (mOp mulD (mC (.int 2)) (mVar 1)) (mC (.int 1))) aNil))) (mVar 1)))))
noncomputable def m__law_number : FM := fnP N__law_number.length b__law_number
theorem ok__law_number (c : Fx K mg) : FD P w K mg base "_law_number" st__law_number ["deck", "most"] 3 m__law_number := by
    obtain ⟨f, fd, G⟩ := c.g__law_number
    refine (fd_mk (k := 2) G sc__law_number fun X W cdv A outer s H E eX eW tk hp hr => ?_)
    have hu := hr.units
    have hu65 : X.A.units + 65 < cLine := by have := hr.un; omega
    have hu1 : X.A.units + 1 < cLine := by have := hr.un; omega
    have nd := sc__law_number.nd
    subst eX
    exact (b_cons (s_set nd (i := 2) rfl (Or.inl rfl) (Or.inr rfl) (d_call (ok__law_draw c) bd__law_draw (hr.mono (by decide)) rfl tk (a_cons (d_var (i := 0) rfl (Or.inl rfl)) (a_cons d_int a_nil))))
      (b_cons (s_if (t_cmp (opD_eq hu) (d_var (i := 2) rfl (Or.inl rfl)) d_int rfl) (b_one (s_ret (d_call (ok__law_pick c) bd__law_pick (hr.mono (by decide)) rfl tk (a_cons (d_var (i := 0) rfl (Or.inl rfl)) (a_cons (d_tup (a_cons d_int (a_cons d_int (a_cons (d_un unD_neg d_int) (a_cons (d_var (i := 1) rfl (Or.inl rfl)) (a_cons (d_un unD_neg (d_var (i := 1) rfl (Or.inl rfl))) (a_cons (d_bin opD_sub (d_var (i := 1) rfl (Or.inl rfl)) d_int) (a_cons (d_bin opD_sub d_int (d_var (i := 1) rfl (Or.inl rfl))) (a_cons d_int a_nil))))))))) a_nil))))) b_nil)
      (b_one (s_ret (d_bin opD_sub (d_call (ok__law_far c) bd__law_far (hr.mono (by decide)) rfl tk (a_cons (d_var (i := 0) rfl (Or.inl rfl)) (a_cons (d_bin opD_add (d_bin opD_mul d_int (d_var (i := 1) rfl (Or.inl rfl))) d_int) a_nil))) (d_var (i := 1) rfl (Or.inl rfl)))))))

abbrev N__law_any_spot : List Str := ["deck", "most", "w"]
theorem sc__law_any_spot : FnScope N__law_any_spot ["deck", "most"] (defScope st__law_any_spot) := ⟨rfl, rfl, rfl, by decide +kernel, rfl, by decide +kernel, by decide +kernel⟩
theorem bd__law_any_spot : BindOk "_law_any_spot" st__law_any_spot ["deck", "most"] := fun _ _ _ _ _ _ us hl => match us, hl with | [_, _], _ => rfl
noncomputable def b__law_any_spot : SM :=
      (sSeq (sAsg (mCall 2 m__law_pick (aCons (mVar 0) (aCons (mTup (aCons (mC (.int 1)) (aCons (mC (.int 1)) (aCons (mC (.int 1)) (aCons (mC (.int 2)) (aCons (mC (.int 3)) (aCons (mOp addD (mC (.int 1)) (mCall 2 m__law_draw (aCons (mVar 0) (aCons (mC (.int 9)) aNil)))) (aCons (mOp addD (mC (.int 1)) (mCall 2 m__law_far (aCons (mVar 0) (aCons (mVar 1) aNil)))) (aCons (mVar 1) aNil))))))))) aNil))) (gN 2))
      (sRet (mCall 3 m__law_spot (aCons (mCall 2 m__law_number (aCons (mVar 0) (aCons (mVar 1) aNil))) (aCons (mCall 2 m__law_number (aCons (mVar 0) (aCons (mVar 1) aNil))) (aCons (mB min2D (aCons (mVar 2) (aCons (mVar 1) aNil))) aNil))))))
noncomputable def m__law_any_spot : FM := fnP N__law_any_spot.length b__law_any_spot
theorem ok__law_any_spot (c : Fx K mg) : FD P w K mg base "_law_any_spot" st__law_any_spot ["deck", "most"] 4 m__law_any_spot := by
    obtain ⟨f, fd, G⟩ := c.g__law_any_spot
    refine (fd_mk (k := 3) G sc__law_any_spot fun X W cdv A outer s H E eX eW tk hp hr => ?_)
    have hu := hr.units
    have hu65 : X.A.units + 65 < cLine := by have := hr.un; omega
    have hu1 : X.A.units + 1 < cLine := by have := hr.un; omega
    have nd := sc__law_any_spot.nd
    subst eX
    exact (b_cons (s_set nd (i := 2) rfl (Or.inl rfl) (Or.inr rfl) (d_call (ok__law_pick c) bd__law_pick (hr.mono (by decide)) rfl tk (a_cons (d_var (i := 0) rfl (Or.inl rfl)) (a_cons (d_tup (a_cons d_int (a_cons d_int (a_cons d_int (a_cons d_int (a_cons d_int (a_cons (d_bin opD_add d_int (d_call (ok__law_draw c) bd__law_draw (hr.mono (by decide)) rfl tk (a_cons (d_var (i := 0) rfl (Or.inl rfl)) (a_cons d_int a_nil)))) (a_cons (d_bin opD_add d_int (d_call (ok__law_far c) bd__law_far (hr.mono (by decide)) rfl tk (a_cons (d_var (i := 0) rfl (Or.inl rfl)) (a_cons (d_var (i := 1) rfl (Or.inl rfl)) a_nil)))) (a_cons (d_var (i := 1) rfl (Or.inl rfl)) a_nil))))))))) a_nil))))
      (b_one (s_ret (d_call (ok__law_spot c) bd__law_spot (hr.mono (by decide)) rfl tk (a_cons (d_call (ok__law_number c) bd__law_number (hr.mono (by decide)) rfl tk (a_cons (d_var (i := 0) rfl (Or.inl rfl)) (a_cons (d_var (i := 1) rfl (Or.inl rfl)) a_nil))) (a_cons (d_call (ok__law_number c) bd__law_number (hr.mono (by decide)) rfl tk (a_cons (d_var (i := 0) rfl (Or.inl rfl)) (a_cons (d_var (i := 1) rfl (Or.inl rfl)) a_nil))) (a_cons (d_B (cD_min2 rfl) rfl c.n_min bt_min (a_cons (d_var (i := 2) rfl (Or.inl rfl)) (a_cons (d_var (i := 1) rfl (Or.inl rfl)) a_nil))) a_nil)))))))

abbrev N__law_most : List Str := ["deck"]
theorem sc__law_most : FnScope N__law_most ["deck"] (defScope st__law_most) := ⟨rfl, rfl, rfl, by decide +kernel, rfl, by decide +kernel, by decide +kernel⟩
theorem bd__law_most : BindOk "_law_most" st__law_most ["deck"] := fun _ _ _ _ _ _ us hl => match us, hl with | [_], _ => rfl
noncomputable def b__law_most : SM :=
      (sRet (mCall 2 m__law_pick (aCons (mVar 0) (aCons (mTup (aCons (mC (.int 3)) (aCons (mC (.int 6)) (aCons (mOp powD (mC (.int 10)) (mC (.int 9))) (aCons (mC (.int 2)) (aCons (mC (.int 50)) (aCons (mOp powD (mC (.int 10)) (mC (.int 15))) (aCons (mOp powD (mC (.int 10)) (mC (.int 5))) (aCons (mC (.int 9)) (aCons (mOp powD (mC (.int 10)) (mC (.int 9))) (aCons (mC (.int 4)) aNil))))))))))) aNil))))
noncomputable def m__law_most : FM := fnP N__law_most.length b__law_most
theorem ok__law_most (c : Fx K mg) : FD P w K mg base "_law_most" st__law_most ["deck"] 3 m__law_most := by
    obtain ⟨f, fd, G⟩ := c.g__law_most
    refine (fd_mk (k := 2) G sc__law_most fun X W cdv A outer s H E eX eW tk hp hr => ?_)
    have hu := hr.units
    have hu65 : X.A.units + 65 < cLine := by have := hr.un; omega
    have hu1 : X.A.units + 1 < cLine := by have := hr.un; omega
    have nd := sc__law_most.nd
    subst eX
    exact (b_one (s_ret (d_call (ok__law_pick c) bd__law_pick (hr.mono (by decide)) rfl tk (a_cons (d_var (i := 0) rfl (Or.inl rfl)) (a_cons (d_tup (a_cons d_int (a_cons d_int (a_cons (d_bin opD_pow d_int d_int) (a_cons d_int (a_cons d_int (a_cons (d_bin opD_pow d_int d_int) (a_cons (d_bin opD_pow d_int d_int) (a_cons d_int (a_cons (d_bin opD_pow d_int d_int) (a_cons d_int a_nil))))))))))) a_nil)))))

abbrev N__law_is_ahead : List Str := ["p", "q", "one", "other"]
theorem sc__law_is_ahead : FnScope N__law_is_ahead ["p", "q"] (defScope st__law_is_ahead) := ⟨rfl, rfl, rfl, by decide +kernel, rfl, by decide +kernel, by decide +kernel⟩
theorem bd__law_is_ahead : BindOk "_law_is_ahead" st__law_is_ahead ["p", "q"] := fun _ _ _ _ _ _ us hl => match us, hl with | [_, _], _ => rfl
noncomputable def b__law_is_ahead : SM :=
      (sSeq (sPar [2, 3] (aCons (mOp mulD (mOp ixD (mVar 0) (mC (.int 0))) (mOp ixD (mVar 1) (mC (.int 2)))) (aCons (mOp mulD (mOp ixD (mVar 1) (mC (.int 0))) (mOp ixD (mVar 0) (mC (.int 2)))) aNil)))
      (sRet (mOr (mOp ltD (mVar 2) (mVar 3)) (mAnd (mOp eqD (mVar 2) (mVar 3)) (mOp ltD (mOp mulD (mOp ixD (mVar 0) (mC (.int 1))) (mOp ixD (mVar 1) (mC (.int 2)))) (mOp mulD (mOp ixD (mVar 1) (mC (.int 1))) (mOp ixD (mVar 0) (mC (.int 2)))))))))
noncomputable def m__law_is_ahead : FM := fnP N__law_is_ahead.length b__law_is_ahead
theorem ok__law_is_ahead (c : Fx K mg) : FD P w K mg base "_law_is_ahead" st__law_is_ahead ["p", "q"] 1 m__law_is_ahead := by
    obtain ⟨f, fd, G⟩ := c.g__law_is_ahead
    refine (fd_mk (k := 0) G sc__law_is_ahead fun X W cdv A outer s H E eX eW tk hp hr => ?_)
    have hu := hr.units
    have hu65 : X.A.units + 65 < cLine := by have := hr.un; omega
    have hu1 : X.A.units + 1 < cLine := by have := hr.un; omega
    have nd := sc__law_is_ahead.nd
    subst eX
    exact (b_cons (s_par2 (i := 2) (j := 3) rfl nd rfl rfl (by decide) rfl rfl (a_cons (d_bin opD_mul (d_ix hu1 (d_var (i := 0) rfl (Or.inl rfl)) d_int (fun _ _ => rfl)) (d_ix hu1 (d_var (i := 1) rfl (Or.inl rfl)) d_int (fun _ _ => rfl))) (a_cons (d_bin opD_mul (d_ix hu1 (d_var (i := 1) rfl (Or.inl rfl)) d_int (fun _ _ => rfl)) (d_ix hu1 (d_var (i := 0) rfl (Or.inl rfl)) d_int (fun _ _ => rfl))) a_nil)))
      (b_one (s_ret (d_or (d_cmp opD_lt (d_var (i := 2) rfl (Or.inl rfl)) (d_var (i := 3) rfl (Or.inl rfl)) rfl) (d_one (d_and (d_cmp (opD_eq hu) (d_var (i := 2) rfl (Or.inl rfl)) (d_var (i := 3) rfl (Or.inl rfl)) rfl) (d_one (d_cmp opD_lt (d_bin opD_mul (d_ix hu1 (d_var (i := 0) rfl (Or.inl rfl)) d_int (fun _ _ => rfl)) (d_ix hu1 (d_var (i := 1) rfl (Or.inl rfl)) d_int (fun _ _ => rfl))) (d_bin opD_mul (d_ix hu1 (d_var (i := 1) rfl (Or.inl rfl)) d_int (fun _ _ => rfl)) (d_ix hu1 (d_var (i := 0) rfl (Or.inl rfl)) d_int (fun _ _ => rfl))) rfl))))))))

abbrev N__law_along : List Str := ["p", "q", "n", "d", "x", "y"]
theorem sc__law_along : FnScope N__law_along ["p", "q", "n", "d"] (defScope st__law_along) := ⟨rfl, rfl, rfl, by decide +kernel, rfl, by decide +kernel, by decide +kernel⟩
theorem bd__law_along : BindOk "_law_along" st__law_along ["p", "q", "n", "d"] := fun _ _ _ _ _ _ us hl => match us, hl with | [_, _, _, _], _ => rfl
noncomputable def b__law_along : SM :=
      (sSeq (sAsg (mOp addD (mOp mulD (mOp mulD (mOp ixD (mVar 0) (mC (.int 0))) (mOp ixD (mVar 1) (mC (.int 2)))) (mOp subD (mVar 3) (mVar 2))) (mOp mulD (mOp mulD (mOp ixD (mVar 1) (mC (.int 0))) (mOp ixD (mVar 0) (mC (.int 2)))) (mVar 2))) (gN 4))
      (sSeq (sAsg (mOp addD (mOp mulD (mOp mulD (mOp ixD (mVar 0) (mC (.int 1))) (mOp ixD (mVar 1) (mC (.int 2)))) (mOp subD (mVar 3) (mVar 2))) (mOp mulD (mOp mulD (mOp ixD (mVar 1) (mC (.int 1))) (mOp ixD (mVar 0) (mC (.int 2)))) (mVar 2))) (gN 5))
      (sRet (mCall 3 m__law_spot (aCons (mVar 4) (aCons (mVar 5) (aCons (mOp mulD (mOp mulD (mOp ixD (mVar 0) (mC (.int 2))) (mOp ixD (mVar 1) (mC (.int 2)))) (mVar 3)) aNil)))))))
noncomputable def m__law_along : FM := fnP N__law_along.length b__law_along
theorem ok__law_along (c : Fx K mg) : FD P w K mg base "_law_along" st__law_along ["p", "q", "n", "d"] 3 m__law_along := by
    obtain ⟨f, fd, G⟩ := c.g__law_along
    refine (fd_mk (k := 2) G sc__law_along fun X W cdv A outer s H E eX eW tk hp hr => ?_)
    have hu := hr.units
    have hu65 : X.A.units + 65 < cLine := by have := hr.un; omega
    have hu1 : X.A.units + 1 < cLine := by have := hr.un; omega
    have nd := sc__law_along.nd
    subst eX
    exact (b_cons (s_set nd (i := 4) rfl (Or.inl rfl) (Or.inr rfl) (d_bin opD_add (d_bin opD_mul (d_bin opD_mul (d_ix hu1 (d_var (i := 0) rfl (Or.inl rfl)) d_int (fun _ _ => rfl)) (d_ix hu1 (d_var (i := 1) rfl (Or.inl rfl)) d_int (fun _ _ => rfl))) (d_bin opD_sub (d_var (i := 3) rfl (Or.inl rfl)) (d_var (i := 2) rfl (Or.inl rfl)))) (d_bin opD_mul (d_bin opD_mul (d_ix hu1 (d_var (i := 1) rfl (Or.inl rfl)) d_int (fun _ _ => rfl)) (d_ix hu1 (d_var (i := 0) rfl (Or.inl rfl)) d_int (fun _ _ => rfl))) (d_var (i := 2) rfl (Or.inl rfl)))))
      (b_cons (s_set nd (i := 5) rfl (Or.inl rfl) (Or.inr rfl) (d_bin opD_add (d_bin opD_mul (d_bin opD_mul (d_ix hu1 (d_var (i := 0) rfl (Or.inl rfl)) d_int (fun _ _ => rfl)) (d_ix hu1 (d_var (i := 1) rfl (Or.inl rfl)) d_int (fun _ _ => rfl))) (d_bin opD_sub (d_var (i := 3) rfl (Or.inl rfl)) (d_var (i := 2) rfl (Or.inl rfl)))) (d_bin opD_mul (d_bin opD_mul (d_ix hu1 (d_var (i := 1) rfl (Or.inl rfl)) d_int (fun _ _ => rfl)) (d_ix hu1 (d_var (i := 0) rfl (Or.inl rfl)) d_int (fun _ _ => rfl))) (d_var (i := 2) rfl (Or.inl rfl)))))
      (b_one (s_ret (d_call (ok__law_spot c) bd__law_spot (hr.mono (by decide)) rfl tk (a_cons (d_var (i := 4) rfl (Or.inl rfl)) (a_cons (d_var (i := 5) rfl (Or.inl rfl)) (a_cons (d_bin opD_mul (d_bin opD_mul (d_ix hu1 (d_var (i := 0) rfl (Or.inl rfl)) d_int (fun _ _ => rfl)) (d_ix hu1 (d_var (i := 1) rfl (Or.inl rfl)) d_int (fun _ _ => rfl))) (d_var (i := 3) rfl (Or.inl rfl))) a_nil))))))))

abbrev N__law_is_within : List Str := ["here", "most"]
theorem sc__law_is_within : FnScope N__law_is_within ["here", "most"] (defScope st__law_is_within) := ⟨rfl, rfl, rfl, by decide +kernel, rfl, by decide +kernel, by decide +kernel⟩
theorem bd__law_is_within : BindOk "_law_is_within" st__law_is_within ["here", "most"] := fun _ _ _ _ _ _ us hl => match us, hl with | [_, _], _ => rfl
noncomputable def b__law_is_within : SM :=
      (sRet (mAnd (mOp leD (mB absD (aCons (mOp ixD (mVar 0) (mC (.int 0))) aNil)) (mVar 1)) (mAnd (mOp leD (mB absD (aCons (mOp ixD (mVar 0) (mC (.int 1))) aNil)) (mVar 1)) (mOp leD (mOp ixD (mVar 0) (mC (.int 2))) (mVar 1)))))
noncomputable def m__law_is_within : FM := fnP N__law_is_within.length b__law_is_within
theorem ok__law_is_within (c : Fx K mg) : FD P w K mg base "_law_is_within" st__law_is_within ["here", "most"] 1 m__law_is_within := by
    obtain ⟨f, fd, G⟩ := c.g__law_is_within
    refine (fd_mk (k := 0) G sc__law_is_within fun X W cdv A outer s H E eX eW tk hp hr => ?_)
    have hu := hr.units
    have hu65 : X.A.units + 65 < cLine := by have := hr.un; omega
    have hu1 : X.A.units + 1 < cLine := by have := hr.un; omega
    have nd := sc__law_is_within.nd
    subst eX
    exact (b_one (s_ret (d_and (d_cmp opD_le (d_B (cD_abs) rfl c.n_abs bt_abs (a_cons (d_ix hu1 (d_var (i := 0) rfl (Or.inl rfl)) d_int (fun _ _ => rfl)) a_nil)) (d_var (i := 1) rfl (Or.inl rfl)) rfl) (d_and (d_cmp opD_le (d_B (cD_abs) rfl c.n_abs bt_abs (a_cons (d_ix hu1 (d_var (i := 0) rfl (Or.inl rfl)) d_int (fun _ _ => rfl)) a_nil)) (d_var (i := 1) rfl (Or.inl rfl)) rfl) (d_one (d_cmp opD_le (d_ix hu1 (d_var (i := 0) rfl (Or.inl rfl)) d_int (fun _ _ => rfl)) (d_var (i := 1) rfl (Or.inl rfl)) rfl))))))

abbrev N__law_meeting : List Str := ["p", "q", "r", "s", "w", "a", "b", "c", "d", "it", "u", "v", "far", "whole", "one", "other", "near", "next_ones", "first", "last"]
theorem sc__law_meeting : FnScope N__law_meeting ["p", "q", "r", "s"] (defScope st__law_meeting) := ⟨rfl, rfl, rfl, by decide +kernel, rfl, by decide +kernel, by decide +kernel⟩
theorem bd__law_meeting : BindOk "_law_meeting" st__law_meeting ["p", "q", "r", "s"] := fun _ _ _ _ _ _ us hl => match us, hl with | [_, _, _, _], _ => rfl
noncomputable def b__law_meeting : SM :=
      (sSeq (sAsg (mOp mulD (mOp mulD (mOp mulD (mOp ixD (mVar 0) (mC (.int 2))) (mOp ixD (mVar 1) (mC (.int 2)))) (mOp ixD (mVar 2) (mC (.int 2)))) (mOp ixD (mVar 3) (mC (.int 2)))) (gN 4))
      (sSeq (sAsg (mLc (iSeq (mTup (aCons (mVar 0) (aCons (mVar 1) (aCons (mVar 2) (aCons (mVar 3) aNil)))))) (gN 9) bYes (mTup (aCons (mOp mulD (mOp ixD (mVar 9) (mC (.int 0))) (mOp fdivD (mVar 4) (mOp ixD (mVar 9) (mC (.int 2))))) (aCons (mOp mulD (mOp ixD (mVar 9) (mC (.int 1))) (mOp fdivD (mVar 4) (mOp ixD (mVar 9) (mC (.int 2))))) aNil))) [9]) (gT [(gN 5), (gN 6), (gN 7), (gN 8)]))
      (sSeq (sPar [10, 11, 12] (aCons (mTup (aCons (mOp subD (mOp ixD (mVar 6) (mC (.int 0))) (mOp ixD (mVar 5) (mC (.int 0)))) (aCons (mOp subD (mOp ixD (mVar 6) (mC (.int 1))) (mOp ixD (mVar 5) (mC (.int 1)))) aNil))) (aCons (mTup (aCons (mOp subD (mOp ixD (mVar 8) (mC (.int 0))) (mOp ixD (mVar 7) (mC (.int 0)))) (aCons (mOp subD (mOp ixD (mVar 8) (mC (.int 1))) (mOp ixD (mVar 7) (mC (.int 1)))) aNil))) (aCons (mTup (aCons (mOp subD (mOp ixD (mVar 7) (mC (.int 0))) (mOp ixD (mVar 5) (mC (.int 0)))) (aCons (mOp subD (mOp ixD (mVar 7) (mC (.int 1))) (mOp ixD (mVar 5) (mC (.int 1)))) aNil))) aNil))))
      (sSeq (sPar [13, 14, 15] (aCons (mOp subD (mOp mulD (mOp ixD (mVar 10) (mC (.int 0))) (mOp ixD (mVar 11) (mC (.int 1)))) (mOp mulD (mOp ixD (mVar 10) (mC (.int 1))) (mOp ixD (mVar 11) (mC (.int 0))))) (aCons (mOp subD (mOp mulD (mOp ixD (mVar 12) (mC (.int 0))) (mOp ixD (mVar 11) (mC (.int 1)))) (mOp mulD (mOp ixD (mVar 12) (mC (.int 1))) (mOp ixD (mVar 11) (mC (.int 0))))) (aCons (mOp subD (mOp mulD (mOp ixD (mVar 12) (mC (.int 0))) (mOp ixD (mVar 10) (mC (.int 1)))) (mOp mulD (mOp ixD (mVar 12) (mC (.int 1))) (mOp ixD (mVar 10) (mC (.int 0))))) aNil))))
      (sSeq (sIf (bVal (mOp neD (mVar 13) (mC (.int 0)))) (sSeq (sIf (bVal (mOp ltD (mVar 13) (mC (.int 0)))) (sPar [13, 14, 15] (aCons (mUn negD (mVar 13)) (aCons (mUn negD (mVar 14)) (aCons (mUn negD (mVar 15)) aNil)))) sNil)
      (sSeq (sIf (bOr (bNot (bVal (mChain leD leD (mC (.int 0)) (mVar 14) (mVar 13)))) (bNot (bVal (mChain leD leD (mC (.int 0)) (mVar 15) (mVar 13))))) (sRet (mC .non)) sNil)
      (sRet (mTup (aCons (mC (.str "at")) (aCons (mCall 3 m__law_spot (aCons (mOp addD (mOp mulD (mOp ixD (mVar 5) (mC (.int 0))) (mVar 13)) (mOp mulD (mVar 14) (mOp ixD (mVar 10) (mC (.int 0))))) (aCons (mOp addD (mOp mulD (mOp ixD (mVar 5) (mC (.int 1))) (mVar 13)) (mOp mulD (mVar 14) (mOp ixD (mVar 10) (mC (.int 1))))) (aCons (mOp mulD (mVar 4) (mVar 13)) aNil)))) aNil)))))) sNil)
      (sSeq (sIf (bVal (mOp neD (mVar 14) (mC (.int 0)))) (sRet (mC .non)) sNil)
      (sSeq (sPar [16, 17] (aCons (mIf (bVal (mCall 2 m__law_is_ahead (aCons (mVar 1) (aCons (mVar 0) aNil)))) (mTup (aCons (mVar 1) (aCons (mVar 0) aNil))) (mTup (aCons (mVar 0) (aCons (mVar 1) aNil)))) (aCons (mIf (bVal (mCall 2 m__law_is_ahead (aCons (mVar 3) (aCons (mVar 2) aNil)))) (mTup (aCons (mVar 3) (aCons (mVar 2) aNil))) (mTup (aCons (mVar 2) (aCons (mVar 3) aNil)))) aNil)))
      (sSeq (sAsg (mIf (bVal (mCall 2 m__law_is_ahead (aCons (mOp ixD (mVar 16) (mC (.int 0))) (aCons (mOp ixD (mVar 17) (mC (.int 0))) aNil)))) (mOp ixD (mVar 17) (mC (.int 0))) (mOp ixD (mVar 16) (mC (.int 0)))) (gN 18))
      (sSeq (sAsg (mIf (bVal (mCall 2 m__law_is_ahead (aCons (mOp ixD (mVar 16) (mC (.int 1))) (aCons (mOp ixD (mVar 17) (mC (.int 1))) aNil)))) (mOp ixD (mVar 16) (mC (.int 1))) (mOp ixD (mVar 17) (mC (.int 1)))) (gN 19))
      (sSeq (sIf (bVal (mCall 2 m__law_is_ahead (aCons (mVar 19) (aCons (mVar 18) aNil)))) (sRet (mC .non)) sNil)
      (sRet (mIf (bVal (mOp eqD (mVar 18) (mVar 19))) (mTup (aCons (mC (.str "at")) (aCons (mVar 18) aNil))) (mTup (aCons (mC (.str "along")) (aCons (mVar 18) (aCons (mVar 19) aNil))))))))))))))))
noncomputable def m__law_meeting : FM := fnP N__law_meeting.length b__law_meeting
theorem ok__law_meeting (c : Fx K mg) : FD P w K mg base "_law_meeting" st__law_meeting ["p", "q", "r", "s"] 3 m__law_meeting := by
    obtain ⟨f, fd, G⟩ := c.g__law_meeting
    refine (fd_mk (k := 2) G sc__law_meeting fun X W cdv A outer s H E eX eW tk hp hr => ?_)
    have hu := hr.units
    have hu65 : X.A.units + 65 < cLine := by have := hr.un; omega
    have hu1 : X.A.units + 1 < cLine := by have := hr.un; omega
    have nd := sc__law_meeting.nd
    subst eX
    exact (b_cons (s_set nd (i := 4) rfl (Or.inr rfl) (Or.inl rfl) (d_bin opD_mul (d_bin opD_mul (d_bin opD_mul (d_ix hu1 (d_var (i := 0) rfl (Or.inl rfl)) d_int (fun _ _ => rfl)) (d_ix hu1 (d_var (i := 1) rfl (Or.inl rfl)) d_int (fun _ _ => rfl))) (d_ix hu1 (d_var (i := 2) rfl (Or.inl rfl)) d_int (fun _ _ => rfl))) (d_ix hu1 (d_var (i := 3) rfl (Or.inl rfl)) d_int (fun _ _ => rfl))))
      (b_cons (s_asg (d_lc rfl nd (i_seq (d_tup (a_cons (d_var (i := 0) rfl (Or.inl rfl)) (a_cons (d_var (i := 1) rfl (Or.inl rfl)) (a_cons (d_var (i := 2) rfl (Or.inl rfl)) (a_cons (d_var (i := 3) rfl (Or.inl rfl)) a_nil)))))) (blkOk_by (own := [("it", 9)]) (by kernel_rfl)) (by decide) (fun s H C cl fp => (g_name nd (i := 9) rfl (Or.inl rfl) (Or.inr rfl))) (fun s H C cl fp => ts_nil) (fun s H C cl fp => (d_tup (a_cons (d_bin opD_mul (d_ix hu1 (d_var (i := 9) rfl (Or.inl rfl)) d_int (fun _ _ => rfl)) (d_bin opD_fdiv (d_var (i := 4) rfl (Or.inr (Or.inl rfl))) (d_ix hu1 (d_var (i := 9) rfl (Or.inl rfl)) d_int (fun _ _ => rfl)))) (a_cons (d_bin opD_mul (d_ix hu1 (d_var (i := 9) rfl (Or.inl rfl)) d_int (fun _ _ => rfl)) (d_bin opD_fdiv (d_var (i := 4) rfl (Or.inr (Or.inl rfl))) (d_ix hu1 (d_var (i := 9) rfl (Or.inl rfl)) d_int (fun _ _ => rfl)))) a_nil))))) (g_tup rfl (gs_cons (g_name nd (i := 5) rfl (Or.inl rfl) (Or.inr rfl)) (gs_cons (g_name nd (i := 6) rfl (Or.inl rfl) (Or.inr rfl)) (gs_cons (g_name nd (i := 7) rfl (Or.inl rfl) (Or.inr rfl)) (gs_cons (g_name nd (i := 8) rfl (Or.inl rfl) (Or.inr rfl)) gs_nil))))))
      (b_cons (s_par3 (i := 10) (j := 11) (l := 12) rfl nd rfl rfl rfl (by decide) (by decide) (by decide) rfl rfl rfl (a_cons (d_tup (a_cons (d_bin opD_sub (d_ix hu1 (d_var (i := 6) rfl (Or.inl rfl)) d_int (fun _ _ => rfl)) (d_ix hu1 (d_var (i := 5) rfl (Or.inl rfl)) d_int (fun _ _ => rfl))) (a_cons (d_bin opD_sub (d_ix hu1 (d_var (i := 6) rfl (Or.inl rfl)) d_int (fun _ _ => rfl)) (d_ix hu1 (d_var (i := 5) rfl (Or.inl rfl)) d_int (fun _ _ => rfl))) a_nil))) (a_cons (d_tup (a_cons (d_bin opD_sub (d_ix hu1 (d_var (i := 8) rfl (Or.inl rfl)) d_int (fun _ _ => rfl)) (d_ix hu1 (d_var (i := 7) rfl (Or.inl rfl)) d_int (fun _ _ => rfl))) (a_cons (d_bin opD_sub (d_ix hu1 (d_var (i := 8) rfl (Or.inl rfl)) d_int (fun _ _ => rfl)) (d_ix hu1 (d_var (i := 7) rfl (Or.inl rfl)) d_int (fun _ _ => rfl))) a_nil))) (a_cons (d_tup (a_cons (d_bin opD_sub (d_ix hu1 (d_var (i := 7) rfl (Or.inl rfl)) d_int (fun _ _ => rfl)) (d_ix hu1 (d_var (i := 5) rfl (Or.inl rfl)) d_int (fun _ _ => rfl))) (a_cons (d_bin opD_sub (d_ix hu1 (d_var (i := 7) rfl (Or.inl rfl)) d_int (fun _ _ => rfl)) (d_ix hu1 (d_var (i := 5) rfl (Or.inl rfl)) d_int (fun _ _ => rfl))) a_nil))) a_nil))))
      (b_cons (s_par3 (i := 13) (j := 14) (l := 15) rfl nd rfl rfl rfl (by decide) (by decide) (by decide) rfl rfl rfl (a_cons (d_bin opD_sub (d_bin opD_mul (d_ix hu1 (d_var (i := 10) rfl (Or.inl rfl)) d_int (fun _ _ => rfl)) (d_ix hu1 (d_var (i := 11) rfl (Or.inl rfl)) d_int (fun _ _ => rfl))) (d_bin opD_mul (d_ix hu1 (d_var (i := 10) rfl (Or.inl rfl)) d_int (fun _ _ => rfl)) (d_ix hu1 (d_var (i := 11) rfl (Or.inl rfl)) d_int (fun _ _ => rfl)))) (a_cons (d_bin opD_sub (d_bin opD_mul (d_ix hu1 (d_var (i := 12) rfl (Or.inl rfl)) d_int (fun _ _ => rfl)) (d_ix hu1 (d_var (i := 11) rfl (Or.inl rfl)) d_int (fun _ _ => rfl))) (d_bin opD_mul (d_ix hu1 (d_var (i := 12) rfl (Or.inl rfl)) d_int (fun _ _ => rfl)) (d_ix hu1 (d_var (i := 11) rfl (Or.inl rfl)) d_int (fun _ _ => rfl)))) (a_cons (d_bin opD_sub (d_bin opD_mul (d_ix hu1 (d_var (i := 12) rfl (Or.inl rfl)) d_int (fun _ _ => rfl)) (d_ix hu1 (d_var (i := 10) rfl (Or.inl rfl)) d_int (fun _ _ => rfl))) (d_bin opD_mul (d_ix hu1 (d_var (i := 12) rfl (Or.inl rfl)) d_int (fun _ _ => rfl)) (d_ix hu1 (d_var (i := 10) rfl (Or.inl rfl)) d_int (fun _ _ => rfl)))) a_nil))))
      (b_cons (s_if (t_cmp (opD_ne hu) (d_var (i := 13) rfl (Or.inl rfl)) d_int rfl) (b_cons (s_if (t_cmp opD_lt (d_var (i := 13) rfl (Or.inl rfl)) d_int rfl) (b_one (s_par3 (i := 13) (j := 14) (l := 15) rfl nd rfl rfl rfl (by decide) (by decide) (by decide) rfl rfl rfl (a_cons (d_un unD_neg (d_var (i := 13) rfl (Or.inl rfl))) (a_cons (d_un unD_neg (d_var (i := 14) rfl (Or.inl rfl))) (a_cons (d_un unD_neg (d_var (i := 15) rfl (Or.inl rfl))) a_nil))))) b_nil)
      (b_cons (s_if (t_bool (w_or (t_not (t_chain opD_le opD_le d_int (d_var (i := 14) rfl (Or.inl rfl)) (d_var (i := 13) rfl (Or.inl rfl)) rfl)) (w_or1 (t_not (t_chain opD_le opD_le d_int (d_var (i := 15) rfl (Or.inl rfl)) (d_var (i := 13) rfl (Or.inl rfl)) rfl))))) (b_one (s_ret d_non)) b_nil)
      (b_one (s_ret (d_tup (a_cons d_str (a_cons (d_call (ok__law_spot c) bd__law_spot (hr.mono (by decide)) rfl tk (a_cons (d_bin opD_add (d_bin opD_mul (d_ix hu1 (d_var (i := 5) rfl (Or.inl rfl)) d_int (fun _ _ => rfl)) (d_var (i := 13) rfl (Or.inl rfl))) (d_bin opD_mul (d_var (i := 14) rfl (Or.inl rfl)) (d_ix hu1 (d_var (i := 10) rfl (Or.inl rfl)) d_int (fun _ _ => rfl)))) (a_cons (d_bin opD_add (d_bin opD_mul (d_ix hu1 (d_var (i := 5) rfl (Or.inl rfl)) d_int (fun _ _ => rfl)) (d_var (i := 13) rfl (Or.inl rfl))) (d_bin opD_mul (d_var (i := 14) rfl (Or.inl rfl)) (d_ix hu1 (d_var (i := 10) rfl (Or.inl rfl)) d_int (fun _ _ => rfl)))) (a_cons (d_bin opD_mul (d_var (i := 4) rfl (Or.inr (Or.inl rfl))) (d_var (i := 13) rfl (Or.inl rfl))) a_nil)))) a_nil))))))) b_nil)
      (b_cons (s_if (t_cmp (opD_ne hu) (d_var (i := 14) rfl (Or.inl rfl)) d_int rfl) (b_one (s_ret d_non)) b_nil)
      (b_cons (s_par2 (i := 16) (j := 17) rfl nd rfl rfl (by decide) rfl rfl (a_cons (d_if (t_val (d_call (ok__law_is_ahead c) bd__law_is_ahead (hr.mono (by decide)) rfl tk (a_cons (d_var (i := 1) rfl (Or.inl rfl)) (a_cons (d_var (i := 0) rfl (Or.inl rfl)) a_nil)))) (d_tup (a_cons (d_var (i := 1) rfl (Or.inl rfl)) (a_cons (d_var (i := 0) rfl (Or.inl rfl)) a_nil))) (d_tup (a_cons (d_var (i := 0) rfl (Or.inl rfl)) (a_cons (d_var (i := 1) rfl (Or.inl rfl)) a_nil)))) (a_cons (d_if (t_val (d_call (ok__law_is_ahead c) bd__law_is_ahead (hr.mono (by decide)) rfl tk (a_cons (d_var (i := 3) rfl (Or.inl rfl)) (a_cons (d_var (i := 2) rfl (Or.inl rfl)) a_nil)))) (d_tup (a_cons (d_var (i := 3) rfl (Or.inl rfl)) (a_cons (d_var (i := 2) rfl (Or.inl rfl)) a_nil))) (d_tup (a_cons (d_var (i := 2) rfl (Or.inl rfl)) (a_cons (d_var (i := 3) rfl (Or.inl rfl)) a_nil)))) a_nil)))
      (b_cons (s_set nd (i := 18) rfl (Or.inl rfl) (Or.inr rfl) (d_if (t_val (d_call (ok__law_is_ahead c) bd__law_is_ahead (hr.mono (by decide)) rfl tk (a_cons (d_ix hu1 (d_var (i := 16) rfl (Or.inl rfl)) d_int (fun _ _ => rfl)) (a_cons (d_ix hu1 (d_var (i := 17) rfl (Or.inl rfl)) d_int (fun _ _ => rfl)) a_nil)))) (d_ix hu1 (d_var (i := 17) rfl (Or.inl rfl)) d_int (fun _ _ => rfl)) (d_ix hu1 (d_var (i := 16) rfl (Or.inl rfl)) d_int (fun _ _ => rfl))))
      (b_cons (s_set nd (i := 19) rfl (Or.inl rfl) (Or.inr rfl) (d_if (t_val (d_call (ok__law_is_ahead c) bd__law_is_ahead (hr.mono (by decide)) rfl tk (a_cons (d_ix hu1 (d_var (i := 16) rfl (Or.inl rfl)) d_int (fun _ _ => rfl)) (a_cons (d_ix hu1 (d_var (i := 17) rfl (Or.inl rfl)) d_int (fun _ _ => rfl)) a_nil)))) (d_ix hu1 (d_var (i := 16) rfl (Or.inl rfl)) d_int (fun _ _ => rfl)) (d_ix hu1 (d_var (i := 17) rfl (Or.inl rfl)) d_int (fun _ _ => rfl))))
      (b_cons (s_if (t_val (d_call (ok__law_is_ahead c) bd__law_is_ahead (hr.mono (by decide)) rfl tk (a_cons (d_var (i := 19) rfl (Or.inl rfl)) (a_cons (d_var (i := 18) rfl (Or.inl rfl)) a_nil)))) (b_one (s_ret d_non)) b_nil)
      (b_one (s_ret (d_if (t_cmp (opD_eq hu) (d_var (i := 18) rfl (Or.inl rfl)) (d_var (i := 19) rfl (Or.inl rfl)) rfl) (d_tup (a_cons d_str (a_cons (d_var (i := 18) rfl (Or.inl rfl)) a_nil))) (d_tup (a_cons d_str (a_cons (d_var (i := 18) rfl (Or.inl rfl)) (a_cons (d_var (i := 19) rfl (Or.inl rfl)) a_nil)))))))))))))))))

abbrev N__law_beside : List Str := ["deck", "spot", "found"]
theorem sc__law_beside : FnScope N__law_beside ["deck", "spot"] (defScope st__law_beside) := ⟨rfl, rfl, rfl, by decide +kernel, rfl, by decide +kernel, by decide +kernel⟩
theorem bd__law_beside : BindOk "_law_beside" st__law_beside ["deck", "spot"] := fun _ _ _ _ _ _ us hl => match us, hl with | [_, _], _ => rfl
noncomputable def b__law_beside : SM :=
      (sSeq (sAsg (mCall 3 m__law_spot (aCons (mOp subD (mOp addD (mOp ixD (mVar 1) (mC (.int 0))) (mCall 2 m__law_draw (aCons (mVar 0) (aCons (mC (.int 3)) aNil)))) (mC (.int 1))) (aCons (mOp subD (mOp addD (mOp ixD (mVar 1) (mC (.int 1))) (mCall 2 m__law_draw (aCons (mVar 0) (aCons (mC (.int 3)) aNil)))) (mC (.int 1))) (aCons (mOp ixD (mVar 1) (mC (.int 2))) aNil)))) (gN 2))
      (sRet (mIf (bVal (mCall 2 m__law_is_within (aCons (mVar 2) (aCons (mOp powD (mC (.int 10)) (mC (.int 15))) aNil)))) (mVar 2) (mVar 1))))
noncomputable def m__law_beside : FM := fnP N__law_beside.length b__law_beside
theorem ok__law_beside (c : Fx K mg) : FD P w K mg base "_law_beside" st__law_beside ["deck", "spot"] 3 m__law_beside := by
    obtain ⟨f, fd, G⟩ := c.g__law_beside
    refine (fd_mk (k := 2) G sc__law_beside fun X W cdv A outer s H E eX eW tk hp hr => ?_)
    have hu := hr.units
    have hu65 : X.A.units + 65 < cLine := by have := hr.un; omega
    have hu1 : X.A.units + 1 < cLine := by have := hr.un; omega
    have nd := sc__law_beside.nd
    subst eX
    exact (b_cons (s_set nd (i := 2) rfl (Or.inl rfl) (Or.inr rfl) (d_call (ok__law_spot c) bd__law_spot (hr.mono (by decide)) rfl tk (a_cons (d_bin opD_sub (d_bin opD_add (d_ix hu1 (d_var (i := 1) rfl (Or.inl rfl)) d_int (fun _ _ => rfl)) (d_call (ok__law_draw c) bd__law_draw (hr.mono (by decide)) rfl tk (a_cons (d_var (i := 0) rfl (Or.inl rfl)) (a_cons d_int a_nil)))) d_int) (a_cons (d_bin opD_sub (d_bin opD_add (d_ix hu1 (d_var (i := 1) rfl (Or.inl rfl)) d_int (fun _ _ => rfl)) (d_call (ok__law_draw c) bd__law_draw (hr.mono (by decide)) rfl tk (a_cons (d_var (i := 0) rfl (Or.inl rfl)) (a_cons d_int a_nil)))) d_int) (a_cons (d_ix hu1 (d_var (i := 1) rfl (Or.inl rfl)) d_int (fun _ _ => rfl)) a_nil)))))
      (b_one (s_ret (d_if (t_val (d_call (ok__law_is_within c) bd__law_is_within (hr.mono (by decide)) rfl tk (a_cons (d_var (i := 2) rfl (Or.inl rfl)) (a_cons (d_bin opD_pow d_int d_int) a_nil)))) (d_var (i := 2) rfl (Or.inl rfl)) (d_var (i := 1) rfl (Or.inl rfl))))))

abbrev N__law_on : List Str := ["deck", "p", "q", "n", "d", "found"]
theorem sc__law_on : FnScope N__law_on ["deck", "p", "q"] (defScope st__law_on) := ⟨rfl, rfl, rfl, by decide +kernel, rfl, by decide +kernel, by decide +kernel⟩
theorem bd__law_on : BindOk "_law_on" st__law_on ["deck", "p", "q"] := fun _ _ _ _ _ _ us hl => match us, hl with | [_, _, _], _ => rfl
noncomputable def b__law_on : SM :=
      (sSeq (sAsg (mCall 2 m__law_pick (aCons (mVar 0) (aCons (mTup (aCons (mTup (aCons (mC (.int 1)) (aCons (mC (.int 2)) aNil))) (aCons (mTup (aCons (mC (.int 0)) (aCons (mC (.int 1)) aNil))) (aCons (mTup (aCons (mC (.int 1)) (aCons (mC (.int 1)) aNil))) (aCons (mTup (aCons (mC (.int 1)) (aCons (mC (.int 3)) aNil))) (aCons (mTup (aCons (mC (.int 2)) (aCons (mC (.int 3)) aNil))) (aCons (mTup (aCons (mC (.int 3)) (aCons (mC (.int 2)) aNil))) (aCons (mTup (aCons (mUn negD (mC (.int 1))) (aCons (mC (.int 1)) aNil))) (aCons (mTup (aCons (mC (.int 2)) (aCons (mC (.int 1)) aNil))) (aCons (mTup (aCons (mUn negD (mC (.int 1))) (aCons (mC (.int 2)) aNil))) (aCons (mTup (aCons (mC (.int 3)) (aCons (mC (.int 4)) aNil))) (aCons (mTup (aCons (mC (.int 5)) (aCons (mC (.int 1)) aNil))) aNil)))))))))))) aNil))) (gT [(gN 3), (gN 4)]))
      (sSeq (sAsg (mCall 4 m__law_along (aCons (mVar 1) (aCons (mVar 2) (aCons (mVar 3) (aCons (mVar 4) aNil))))) (gN 5))
      (sRet (mIf (bVal (mCall 2 m__law_is_within (aCons (mVar 5) (aCons (mOp powD (mC (.int 10)) (mC (.int 15))) aNil)))) (mVar 5) (mVar 2)))))
noncomputable def m__law_on : FM := fnP N__law_on.length b__law_on
theorem ok__law_on (c : Fx K mg) : FD P w K mg base "_law_on" st__law_on ["deck", "p", "q"] 4 m__law_on := by
    obtain ⟨f, fd, G⟩ := c.g__law_on
    refine (fd_mk (k := 3) G sc__law_on fun X W cdv A outer s H E eX eW tk hp hr => ?_)
    have hu := hr.units
    have hu65 : X.A.units + 65 < cLine := by have := hr.un; omega
    have hu1 : X.A.units + 1 < cLine := by have := hr.un; omega
    have nd := sc__law_on.nd
    subst eX
    exact (b_cons (s_asg (d_call (ok__law_pick c) bd__law_pick (hr.mono (by decide)) rfl tk (a_cons (d_var (i := 0) rfl (Or.inl rfl)) (a_cons (d_tup (a_cons (d_tup (a_cons d_int (a_cons d_int a_nil))) (a_cons (d_tup (a_cons d_int (a_cons d_int a_nil))) (a_cons (d_tup (a_cons d_int (a_cons d_int a_nil))) (a_cons (d_tup (a_cons d_int (a_cons d_int a_nil))) (a_cons (d_tup (a_cons d_int (a_cons d_int a_nil))) (a_cons (d_tup (a_cons d_int (a_cons d_int a_nil))) (a_cons (d_tup (a_cons (d_un unD_neg d_int) (a_cons d_int a_nil))) (a_cons (d_tup (a_cons d_int (a_cons d_int a_nil))) (a_cons (d_tup (a_cons (d_un unD_neg d_int) (a_cons d_int a_nil))) (a_cons (d_tup (a_cons d_int (a_cons d_int a_nil))) (a_cons (d_tup (a_cons d_int (a_cons d_int a_nil))) a_nil)))))))))))) a_nil))) (g_tup rfl (gs_cons (g_name nd (i := 3) rfl (Or.inl rfl) (Or.inr rfl)) (gs_cons (g_name nd (i := 4) rfl (Or.inl rfl) (Or.inr rfl)) gs_nil))))
      (b_cons (s_set nd (i := 5) rfl (Or.inl rfl) (Or.inr rfl) (d_call (ok__law_along c) bd__law_along (hr.mono (by decide)) rfl tk (a_cons (d_var (i := 1) rfl (Or.inl rfl)) (a_cons (d_var (i := 2) rfl (Or.inl rfl)) (a_cons (d_var (i := 3) rfl (Or.inl rfl)) (a_cons (d_var (i := 4) rfl (Or.inl rfl)) a_nil))))))
      (b_one (s_ret (d_if (t_val (d_call (ok__law_is_within c) bd__law_is_within (hr.mono (by decide)) rfl tk (a_cons (d_var (i := 5) rfl (Or.inl rfl)) (a_cons (d_bin opD_pow d_int d_int) a_nil)))) (d_var (i := 5) rfl (Or.inl rfl)) (d_var (i := 2) rfl (Or.inl rfl)))))))

abbrev N__law_segments : List Str := ["deck", "most", "p", "q", "r", "s", "go", "way", "near", "it", "y", "flip", "row", "x"]
theorem sc__law_segments : FnScope N__law_segments ["deck"] (defScope st__law_segments) := ⟨rfl, rfl, rfl, by decide +kernel, rfl, by decide +kernel, by decide +kernel⟩
theorem bd__law_segments : BindOk "_law_segments" st__law_segments ["deck"] := fun _ _ _ _ _ _ us hl => match us, hl with | [_], _ => rfl
noncomputable def b__law_segments : SM :=
      (sSeq (sAsg (mCall 1 m__law_most (aCons (mVar 0) aNil)) (gN 1))
      (sSeq (sAsg (mLc (iRng1 (aCons (mC (.int 4)) aNil)) (gN 6) bYes (mCall 2 m__law_any_spot (aCons (mVar 0) (aCons (mVar 1) aNil))) [6]) (gT [(gN 2), (gN 3), (gN 4), (gN 5)]))
      (sSeq (sAsg (mCall 2 m__law_draw (aCons (mVar 0) (aCons (mC (.int 9)) aNil))) (gN 7))
      (sSeq (sIf (bVal (mOp eqD (mVar 7) (mC (.int 0)))) (sSeq (sAsg (mCall 3 m__law_on (aCons (mVar 0) (aCons (mVar 2) (aCons (mVar 3) aNil)))) (gN 8))
      (sAsg (mCall 4 m__law_along (aCons (mVar 4) (aCons (mVar 8) (aCons (mCall 2 m__law_pick (aCons (mVar 0) (aCons (mTup (aCons (mC (.int 1)) (aCons (mC (.int 2)) (aCons (mC (.int 3)) aNil)))) aNil))) (aCons (mC (.int 1)) aNil))))) (gN 5))) sNil)
      (sSeq (sIf (bVal (mOp eqD (mVar 7) (mC (.int 1)))) (sAsg (mCall 3 m__law_on (aCons (mVar 0) (aCons (mVar 2) (aCons (mVar 3) aNil)))) (gN 4)) sNil)
      (sSeq (sIf (bVal (mOp eqD (mVar 7) (mC (.int 2)))) (sAsg (mCall 2 m__law_beside (aCons (mVar 0) (aCons (mCall 3 m__law_on (aCons (mVar 0) (aCons (mVar 2) (aCons (mVar 3) aNil)))) aNil))) (gN 4)) sNil)
      (sSeq (sIf (bVal (mOp eqD (mVar 7) (mC (.int 3)))) (sAsg (mCall 2 m__law_pick (aCons (mVar 0) (aCons (mTup (aCons (mVar 2) (aCons (mVar 3) aNil))) aNil))) (gN 4)) sNil)
      (sSeq (sIf (bVal (mOp inD (mVar 7) (mTup (aCons (mC (.int 4)) (aCons (mC (.int 5)) aNil))))) (sPar [4, 5] (aCons (mCall 3 m__law_on (aCons (mVar 0) (aCons (mVar 2) (aCons (mVar 3) aNil)))) (aCons (mCall 3 m__law_on (aCons (mVar 0) (aCons (mVar 2) (aCons (mVar 3) aNil)))) aNil))) sNil)
      (sSeq (sIf (bVal (mOp eqD (mVar 7) (mC (.int 6)))) (sAsg (mLc (iSeq (mTup (aCons (mVar 2) (aCons (mVar 3) aNil)))) (gN 9) bYes (mCall 3 m__law_spot (aCons (mOp addD (mOp ixD (mVar 9) (mC (.int 0))) (mOp mulD (mC (.int 2)) (mOp ixD (mVar 9) (mC (.int 2))))) (aCons (mOp subD (mOp ixD (mVar 9) (mC (.int 1))) (mOp ixD (mVar 9) (mC (.int 2)))) (aCons (mOp ixD (mVar 9) (mC (.int 2))) aNil)))) [9]) (gT [(gN 4), (gN 5)])) sNil)
      (sSeq (sIf (bVal (mOp eqD (mVar 7) (mC (.int 7)))) (sSeq (sAsg (mTup (aCons (mCall 2 m__law_number (aCons (mVar 0) (aCons (mVar 1) aNil))) (aCons (mCall 2 m__law_draw (aCons (mVar 0) (aCons (mC (.int 2)) aNil))) aNil))) (gT [(gN 10), (gN 11)]))
      (sSeq (sAsg (mLc (iRng1 (aCons (mC (.int 4)) aNil)) (gN 6) bYes (mCall 2 m__law_number (aCons (mVar 0) (aCons (mVar 1) aNil))) [6]) (gN 12))
      (sSeq (sAsg (mLc (iSeq (mVar 12)) (gN 13) bYes (mIf (bVal (mOp eqD (mVar 11) (mC (.int 0)))) (mTup (aCons (mVar 13) (aCons (mVar 10) (aCons (mC (.int 1)) aNil)))) (mTup (aCons (mVar 10) (aCons (mVar 13) (aCons (mC (.int 1)) aNil))))) [13]) (gT [(gN 2), (gN 3), (gN 4), (gN 5)]))
      (sAsg (mIf (bVal (mOp eqD (mCall 2 m__law_draw (aCons (mVar 0) (aCons (mC (.int 3)) aNil))) (mC (.int 0)))) (mTup (aCons (mOp ixD (mVar 5) (mC (.int 1))) (aCons (mOp ixD (mVar 5) (mC (.int 0))) (aCons (mC (.int 1)) aNil)))) (mVar 5)) (gN 5))))) sNil)
      (sSeq (sIf (bOr (bNot (bVal (mCall 2 m__law_is_within (aCons (mVar 4) (aCons (mOp powD (mC (.int 10)) (mC (.int 15))) aNil))))) (bNot (bVal (mCall 2 m__law_is_within (aCons (mVar 5) (aCons (mOp powD (mC (.int 10)) (mC (.int 15))) aNil)))))) (sAsg (mTup (aCons (mTup (aCons (mC (.int 0)) (aCons (mC (.int 1)) (aCons (mC (.int 1)) aNil)))) (aCons (mTup (aCons (mC (.int 1)) (aCons (mC (.int 0)) (aCons (mC (.int 1)) aNil)))) aNil))) (gT [(gN 4), (gN 5)])) sNil)
      (sSeq (sAsg (mIf (bVal (mOp neD (mVar 3) (mVar 2))) (mVar 3) (mCall 3 m__law_spot (aCons (mOp addD (mOp ixD (mVar 2) (mC (.int 0))) (mIf (bVal (mOp gtD (mOp ixD (mVar 2) (mC (.int 0))) (mC (.int 0)))) (mUn negD (mOp ixD (mVar 2) (mC (.int 2)))) (mOp ixD (mVar 2) (mC (.int 2))))) (aCons (mOp ixD (mVar 2) (mC (.int 1))) (aCons (mOp ixD (mVar 2) (mC (.int 2))) aNil))))) (gN 3))
      (sSeq (sAsg (mIf (bVal (mOp neD (mVar 5) (mVar 4))) (mVar 5) (mCall 3 m__law_spot (aCons (mOp ixD (mVar 4) (mC (.int 0))) (aCons (mOp addD (mOp ixD (mVar 4) (mC (.int 1))) (mIf (bVal (mOp gtD (mOp ixD (mVar 4) (mC (.int 1))) (mC (.int 0)))) (mUn negD (mOp ixD (mVar 4) (mC (.int 2)))) (mOp ixD (mVar 4) (mC (.int 2))))) (aCons (mOp ixD (mVar 4) (mC (.int 2))) aNil))))) (gN 5))
      (sRet (mTup (aCons (mVar 2) (aCons (mVar 3) (aCons (mVar 4) (aCons (mVar 5) aNil)))))))))))))))))))
noncomputable def m__law_segments : FM := fnP N__law_segments.length b__law_segments
theorem ok__law_segments (c : Fx K mg) : FD P w K mg base "_law_segments" st__law_segments ["deck"] 5 m__law_segments := by
    obtain ⟨f, fd, G⟩ := c.g__law_segments
    refine (fd_mk (k := 4) G sc__law_segments fun X W cdv A outer s H E eX eW tk hp hr => ?_)
    have hu := hr.units
    have hu65 : X.A.units + 65 < cLine := by have := hr.un; omega
    have hu1 : X.A.units + 1 < cLine := by have := hr.un; omega
    have nd := sc__law_segments.nd
    subst eX
    exact (b_cons (s_set nd (i := 1) rfl (Or.inr rfl) (Or.inl rfl) (d_call (ok__law_most c) bd__law_most (hr.mono (by decide)) rfl tk (a_cons (d_var (i := 0) rfl (Or.inr (Or.inl rfl))) a_nil)))
      (b_cons (s_asg (d_lc rfl nd (i_rng1 (by rfl) c.n_range (a_cons d_int a_nil)) (blkOk_by (own := [("go", 6)]) (by kernel_rfl)) (by decide) (fun s H C cl fp => (g_name nd (i := 6) rfl (Or.inl rfl) (Or.inr rfl))) (fun s H C cl fp => ts_nil) (fun s H C cl fp => (d_call (ok__law_any_spot c) bd__law_any_spot (hr.mono (by decide)) rfl takesW0 (a_cons (d_var (i := 0) rfl (Or.inr (Or.inl rfl))) (a_cons (d_var (i := 1) rfl (Or.inr (Or.inl rfl))) a_nil))))) (g_tup rfl (gs_cons (g_name nd (i := 2) rfl (Or.inl rfl) (Or.inr rfl)) (gs_cons (g_name nd (i := 3) rfl (Or.inl rfl) (Or.inr rfl)) (gs_cons (g_name nd (i := 4) rfl (Or.inl rfl) (Or.inr rfl)) (gs_cons (g_name nd (i := 5) rfl (Or.inl rfl) (Or.inr rfl)) gs_nil))))))
      (b_cons (s_set nd (i := 7) rfl (Or.inl rfl) (Or.inr rfl) (d_call (ok__law_draw c) bd__law_draw (hr.mono (by decide)) rfl tk (a_cons (d_var (i := 0) rfl (Or.inr (Or.inl rfl))) (a_cons d_int a_nil))))
      (b_cons (s_if (t_cmp (opD_eq hu) (d_var (i := 7) rfl (Or.inl rfl)) d_int rfl) (b_cons (s_set nd (i := 8) rfl (Or.inl rfl) (Or.inr rfl) (d_call (ok__law_on c) bd__law_on (hr.mono (by decide)) rfl tk (a_cons (d_var (i := 0) rfl (Or.inr (Or.inl rfl))) (a_cons (d_var (i := 2) rfl (Or.inl rfl)) (a_cons (d_var (i := 3) rfl (Or.inl rfl)) a_nil)))))
      (b_one (s_set nd (i := 5) rfl (Or.inl rfl) (Or.inr rfl) (d_call (ok__law_along c) bd__law_along (hr.mono (by decide)) rfl tk (a_cons (d_var (i := 4) rfl (Or.inl rfl)) (a_cons (d_var (i := 8) rfl (Or.inl rfl)) (a_cons (d_call (ok__law_pick c) bd__law_pick (hr.mono (by decide)) rfl tk (a_cons (d_var (i := 0) rfl (Or.inr (Or.inl rfl))) (a_cons (d_tup (a_cons d_int (a_cons d_int (a_cons d_int a_nil)))) a_nil))) (a_cons d_int a_nil)))))))) b_nil)
      (b_cons (s_if (t_cmp (opD_eq hu) (d_var (i := 7) rfl (Or.inl rfl)) d_int rfl) (b_one (s_set nd (i := 4) rfl (Or.inl rfl) (Or.inr rfl) (d_call (ok__law_on c) bd__law_on (hr.mono (by decide)) rfl tk (a_cons (d_var (i := 0) rfl (Or.inr (Or.inl rfl))) (a_cons (d_var (i := 2) rfl (Or.inl rfl)) (a_cons (d_var (i := 3) rfl (Or.inl rfl)) a_nil)))))) b_nil)
      (b_cons (s_if (t_cmp (opD_eq hu) (d_var (i := 7) rfl (Or.inl rfl)) d_int rfl) (b_one (s_set nd (i := 4) rfl (Or.inl rfl) (Or.inr rfl) (d_call (ok__law_beside c) bd__law_beside (hr.mono (by decide)) rfl tk (a_cons (d_var (i := 0) rfl (Or.inr (Or.inl rfl))) (a_cons (d_call (ok__law_on c) bd__law_on (hr.mono (by decide)) rfl tk (a_cons (d_var (i := 0) rfl (Or.inr (Or.inl rfl))) (a_cons (d_var (i := 2) rfl (Or.inl rfl)) (a_cons (d_var (i := 3) rfl (Or.inl rfl)) a_nil)))) a_nil))))) b_nil)
      (b_cons (s_if (t_cmp (opD_eq hu) (d_var (i := 7) rfl (Or.inl rfl)) d_int rfl) (b_one (s_set nd (i := 4) rfl (Or.inl rfl) (Or.inr rfl) (d_call (ok__law_pick c) bd__law_pick (hr.mono (by decide)) rfl tk (a_cons (d_var (i := 0) rfl (Or.inr (Or.inl rfl))) (a_cons (d_tup (a_cons (d_var (i := 2) rfl (Or.inl rfl)) (a_cons (d_var (i := 3) rfl (Or.inl rfl)) a_nil))) a_nil))))) b_nil)
      (b_cons (s_if (t_cmp (opD_in hu65) (d_var (i := 7) rfl (Or.inl rfl)) (d_tup (a_cons d_int (a_cons d_int a_nil))) rfl) (b_one (s_par2 (i := 4) (j := 5) rfl nd rfl rfl (by decide) rfl rfl (a_cons (d_call (ok__law_on c) bd__law_on (hr.mono (by decide)) rfl tk (a_cons (d_var (i := 0) rfl (Or.inr (Or.inl rfl))) (a_cons (d_var (i := 2) rfl (Or.inl rfl)) (a_cons (d_var (i := 3) rfl (Or.inl rfl)) a_nil)))) (a_cons (d_call (ok__law_on c) bd__law_on (hr.mono (by decide)) rfl tk (a_cons (d_var (i := 0) rfl (Or.inr (Or.inl rfl))) (a_cons (d_var (i := 2) rfl (Or.inl rfl)) (a_cons (d_var (i := 3) rfl (Or.inl rfl)) a_nil)))) a_nil)))) b_nil)
      (b_cons (s_if (t_cmp (opD_eq hu) (d_var (i := 7) rfl (Or.inl rfl)) d_int rfl) (b_one (s_asg (d_lc rfl nd (i_seq (d_tup (a_cons (d_var (i := 2) rfl (Or.inl rfl)) (a_cons (d_var (i := 3) rfl (Or.inl rfl)) a_nil)))) (blkOk_by (own := [("it", 9)]) (by kernel_rfl)) (by decide) (fun s H C cl fp => (g_name nd (i := 9) rfl (Or.inl rfl) (Or.inr rfl))) (fun s H C cl fp => ts_nil) (fun s H C cl fp => (d_call (ok__law_spot c) bd__law_spot (hr.mono (by decide)) rfl takesW0 (a_cons (d_bin opD_add (d_ix hu1 (d_var (i := 9) rfl (Or.inl rfl)) d_int (fun _ _ => rfl)) (d_bin opD_mul d_int (d_ix hu1 (d_var (i := 9) rfl (Or.inl rfl)) d_int (fun _ _ => rfl)))) (a_cons (d_bin opD_sub (d_ix hu1 (d_var (i := 9) rfl (Or.inl rfl)) d_int (fun _ _ => rfl)) (d_ix hu1 (d_var (i := 9) rfl (Or.inl rfl)) d_int (fun _ _ => rfl))) (a_cons (d_ix hu1 (d_var (i := 9) rfl (Or.inl rfl)) d_int (fun _ _ => rfl)) a_nil)))))) (g_tup rfl (gs_cons (g_name nd (i := 4) rfl (Or.inl rfl) (Or.inr rfl)) (gs_cons (g_name nd (i := 5) rfl (Or.inl rfl) (Or.inr rfl)) gs_nil))))) b_nil)
      (b_cons (s_if (t_cmp (opD_eq hu) (d_var (i := 7) rfl (Or.inl rfl)) d_int rfl) (b_cons (s_asg (d_tup (a_cons (d_call (ok__law_number c) bd__law_number (hr.mono (by decide)) rfl tk (a_cons (d_var (i := 0) rfl (Or.inr (Or.inl rfl))) (a_cons (d_var (i := 1) rfl (Or.inr (Or.inl rfl))) a_nil))) (a_cons (d_call (ok__law_draw c) bd__law_draw (hr.mono (by decide)) rfl tk (a_cons (d_var (i := 0) rfl (Or.inr (Or.inl rfl))) (a_cons d_int a_nil))) a_nil))) (g_tup rfl (gs_cons (g_name nd (i := 10) rfl (Or.inr rfl) (Or.inl rfl)) (gs_cons (g_name nd (i := 11) rfl (Or.inr rfl) (Or.inl rfl)) gs_nil))))
      (b_cons (s_setLc (j := 12) rfl nd rfl rfl rfl (i_rng1 (by rfl) c.n_range (a_cons d_int a_nil)) (blkOk_by (own := [("go", 6)]) (by kernel_rfl)) (by decide) (fun s H C cl fp => (g_name nd (i := 6) rfl (Or.inl rfl) (Or.inr rfl))) (fun s H C cl fp => ts_nil) (fun s H C cl fp => (d_call (ok__law_number c) bd__law_number (hr.mono (by decide)) rfl takesW0 (a_cons (d_var (i := 0) rfl (Or.inr (Or.inl rfl))) (a_cons (d_var (i := 1) rfl (Or.inr (Or.inl rfl))) a_nil)))))
      (b_cons (s_asg (d_lc rfl nd (i_seq (d_var (i := 12) rfl (Or.inl rfl))) (blkOk_by (own := [("x", 13)]) (by kernel_rfl)) (by decide) (fun s H C cl fp => (g_name nd (i := 13) rfl (Or.inl rfl) (Or.inr rfl))) (fun s H C cl fp => ts_nil) (fun s H C cl fp => (d_if (t_cmp (opD_eq hu) (d_var (i := 11) rfl (Or.inr (Or.inl rfl))) d_int rfl) (d_tup (a_cons (d_var (i := 13) rfl (Or.inl rfl)) (a_cons (d_var (i := 10) rfl (Or.inr (Or.inl rfl))) (a_cons d_int a_nil)))) (d_tup (a_cons (d_var (i := 10) rfl (Or.inr (Or.inl rfl))) (a_cons (d_var (i := 13) rfl (Or.inl rfl)) (a_cons d_int a_nil))))))) (g_tup rfl (gs_cons (g_name nd (i := 2) rfl (Or.inl rfl) (Or.inr rfl)) (gs_cons (g_name nd (i := 3) rfl (Or.inl rfl) (Or.inr rfl)) (gs_cons (g_name nd (i := 4) rfl (Or.inl rfl) (Or.inr rfl)) (gs_cons (g_name nd (i := 5) rfl (Or.inl rfl) (Or.inr rfl)) gs_nil))))))
      (b_one (s_set nd (i := 5) rfl (Or.inl rfl) (Or.inr rfl) (d_if (t_cmp (opD_eq hu) (d_call (ok__law_draw c) bd__law_draw (hr.mono (by decide)) rfl tk (a_cons (d_var (i := 0) rfl (Or.inr (Or.inl rfl))) (a_cons d_int a_nil))) d_int rfl) (d_tup (a_cons (d_ix hu1 (d_var (i := 5) rfl (Or.inl rfl)) d_int (fun _ _ => rfl)) (a_cons (d_ix hu1 (d_var (i := 5) rfl (Or.inl rfl)) d_int (fun _ _ => rfl)) (a_cons d_int a_nil)))) (d_var (i := 5) rfl (Or.inl rfl)))))))) b_nil)
      (b_cons (s_if (t_bool (w_or (t_not (t_val (d_call (ok__law_is_within c) bd__law_is_within (hr.mono (by decide)) rfl tk (a_cons (d_var (i := 4) rfl (Or.inl rfl)) (a_cons (d_bin opD_pow d_int d_int) a_nil))))) (w_or1 (t_not (t_val (d_call (ok__law_is_within c) bd__law_is_within (hr.mono (by decide)) rfl tk (a_cons (d_var (i := 5) rfl (Or.inl rfl)) (a_cons (d_bin opD_pow d_int d_int) a_nil)))))))) (b_one (s_asg (d_tup (a_cons (d_tup (a_cons d_int (a_cons d_int (a_cons d_int a_nil)))) (a_cons (d_tup (a_cons d_int (a_cons d_int (a_cons d_int a_nil)))) a_nil))) (g_tup rfl (gs_cons (g_name nd (i := 4) rfl (Or.inl rfl) (Or.inr rfl)) (gs_cons (g_name nd (i := 5) rfl (Or.inl rfl) (Or.inr rfl)) gs_nil))))) b_nil)
      (b_cons (s_set nd (i := 3) rfl (Or.inl rfl) (Or.inr rfl) (d_if (t_cmp (opD_ne hu) (d_var (i := 3) rfl (Or.inl rfl)) (d_var (i := 2) rfl (Or.inl rfl)) rfl) (d_var (i := 3) rfl (Or.inl rfl)) (d_call (ok__law_spot c) bd__law_spot (hr.mono (by decide)) rfl tk (a_cons (d_bin opD_add (d_ix hu1 (d_var (i := 2) rfl (Or.inl rfl)) d_int (fun _ _ => rfl)) (d_if (t_cmp opD_gt (d_ix hu1 (d_var (i := 2) rfl (Or.inl rfl)) d_int (fun _ _ => rfl)) d_int rfl) (d_un unD_neg (d_ix hu1 (d_var (i := 2) rfl (Or.inl rfl)) d_int (fun _ _ => rfl))) (d_ix hu1 (d_var (i := 2) rfl (Or.inl rfl)) d_int (fun _ _ => rfl)))) (a_cons (d_ix hu1 (d_var (i := 2) rfl (Or.inl rfl)) d_int (fun _ _ => rfl)) (a_cons (d_ix hu1 (d_var (i := 2) rfl (Or.inl rfl)) d_int (fun _ _ => rfl)) a_nil))))))
      (b_cons (s_set nd (i := 5) rfl (Or.inl rfl) (Or.inr rfl) (d_if (t_cmp (opD_ne hu) (d_var (i := 5) rfl (Or.inl rfl)) (d_var (i := 4) rfl (Or.inl rfl)) rfl) (d_var (i := 5) rfl (Or.inl rfl)) (d_call (ok__law_spot c) bd__law_spot (hr.mono (by decide)) rfl tk (a_cons (d_ix hu1 (d_var (i := 4) rfl (Or.inl rfl)) d_int (fun _ _ => rfl)) (a_cons (d_bin opD_add (d_ix hu1 (d_var (i := 4) rfl (Or.inl rfl)) d_int (fun _ _ => rfl)) (d_if (t_cmp opD_gt (d_ix hu1 (d_var (i := 4) rfl (Or.inl rfl)) d_int (fun _ _ => rfl)) d_int rfl) (d_un unD_neg (d_ix hu1 (d_var (i := 4) rfl (Or.inl rfl)) d_int (fun _ _ => rfl))) (d_ix hu1 (d_var (i := 4) rfl (Or.inl rfl)) d_int (fun _ _ => rfl)))) (a_cons (d_ix hu1 (d_var (i := 4) rfl (Or.inl rfl)) d_int (fun _ _ => rfl)) a_nil))))))
      (b_one (s_ret (d_tup (a_cons (d_var (i := 2) rfl (Or.inl rfl)) (a_cons (d_var (i := 3) rfl (Or.inl rfl)) (a_cons (d_var (i := 4) rfl (Or.inl rfl)) (a_cons (d_var (i := 5) rfl (Or.inl rfl)) a_nil))))))))))))))))))))

abbrev N_law : List Str := ["script", "deck", "go", "p", "q", "r", "s", "due", "a", "b", "c", "d"]
theorem sc_law : FnScope N_law ["script"] (defScope st_law) := ⟨rfl, rfl, rfl, by decide +kernel, rfl, by decide +kernel, by decide +kernel⟩
theorem bd_law : BindOk "law" st_law ["script"] := fun _ _ _ _ _ _ us hl => match us, hl with | [_], _ => rfl
noncomputable def b_law : SM :=
      (sSeq (sAsg (mCall 1 m__law_deck (aCons (mVar 0) aNil)) (gN 1))
      (sSeq (sFor (iRng1 (aCons (mC (.int 12)) aNil)) (gN 2) (sSeq (sAsg (mCall 1 m__law_segments (aCons (mVar 1) aNil)) (gT [(gN 3), (gN 4), (gN 5), (gN 6)]))
      (sSeq (sAsg (mCall 4 m__law_meeting (aCons (mVar 3) (aCons (mVar 4) (aCons (mVar 5) (aCons (mVar 6) aNil))))) (gN 7))
      (sSeq (sFor (iSeq (mTup (aCons (mTup (aCons (mVar 3) (aCons (mVar 4) (aCons (mVar 5) (aCons (mVar 6) aNil))))) (aCons (mTup (aCons (mVar 4) (aCons (mVar 3) (aCons (mVar 5) (aCons (mVar 6) aNil))))) (aCons (mTup (aCons (mVar 3) (aCons (mVar 4) (aCons (mVar 6) (aCons (mVar 5) aNil))))) (aCons (mTup (aCons (mVar 4) (aCons (mVar 3) (aCons (mVar 6) (aCons (mVar 5) aNil))))) (aCons (mTup (aCons (mVar 5) (aCons (mVar 6) (aCons (mVar 3) (aCons (mVar 4) aNil))))) (aCons (mTup (aCons (mVar 6) (aCons (mVar 5) (aCons (mVar 3) (aCons (mVar 4) aNil))))) (aCons (mTup (aCons (mVar 5) (aCons (mVar 6) (aCons (mVar 4) (aCons (mVar 3) aNil))))) aNil))))))))) (gT [(gN 8), (gN 9), (gN 10), (gN 11)]) (sIf (bNot (bVal (mCall 2 (m__law_same 5) (aCons (mCall 4 m_meeting (aCons (mVar 8) (aCons (mVar 9) (aCons (mVar 10) (aCons (mVar 11) aNil))))) (aCons (mVar 7) aNil))))) (sRet (mC (.bl false))) sNil))
      (sIf (bNot (bVal (mCall 2 (m__law_same 5) (aCons (mCallK 4 0 4 [3, 2, 1, 0] m_meeting aNil (aCons (mVar 3) (aCons (mVar 4) (aCons (mVar 5) (aCons (mVar 6) aNil))))) (aCons (mVar 7) aNil))))) (sRet (mC (.bl false))) sNil)))))
      (sRet (mC (.bl true)))))
noncomputable def m_law : FM := fnP N_law.length b_law
theorem ok_law (c : Fx K mg) : FD P w K mg base "law" st_law ["script"] 8 m_law := by
    obtain ⟨f, fd, G⟩ := c.g_law
    refine (fd_mk (k := 7) G sc_law fun X W cdv A outer s H E eX eW tk hp hr => ?_)
    have hu := hr.units
    have hu65 : X.A.units + 65 < cLine := by have := hr.un; omega
    have hu1 : X.A.units + 1 < cLine := by have := hr.un; omega
    have nd := sc_law.nd
    subst eX
    exact (b_cons (s_set nd (i := 1) rfl (Or.inl rfl) (Or.inr rfl) (d_call (ok__law_deck c) bd__law_deck (hr.mono (by decide)) rfl tk (a_cons (d_var (i := 0) rfl (Or.inl rfl)) a_nil)))
      (b_cons (s_for hp rfl (i_rng1 (by rfl) c.n_range (a_cons d_int a_nil)) (g_name nd (i := 2) rfl (Or.inl rfl) (Or.inr rfl)) (b_cons (s_asg (d_call (ok__law_segments c) bd__law_segments (hr.mono (by decide)) rfl tk (a_cons (d_var (i := 1) rfl (Or.inl rfl)) a_nil)) (g_tup rfl (gs_cons (g_name nd (i := 3) rfl (Or.inl rfl) (Or.inr rfl)) (gs_cons (g_name nd (i := 4) rfl (Or.inl rfl) (Or.inr rfl)) (gs_cons (g_name nd (i := 5) rfl (Or.inl rfl) (Or.inr rfl)) (gs_cons (g_name nd (i := 6) rfl (Or.inl rfl) (Or.inr rfl)) gs_nil))))))
      (b_cons (s_set nd (i := 7) rfl (Or.inl rfl) (Or.inr rfl) (d_call (ok__law_meeting c) bd__law_meeting (hr.mono (by decide)) rfl tk (a_cons (d_var (i := 3) rfl (Or.inl rfl)) (a_cons (d_var (i := 4) rfl (Or.inl rfl)) (a_cons (d_var (i := 5) rfl (Or.inl rfl)) (a_cons (d_var (i := 6) rfl (Or.inl rfl)) a_nil))))))
      (b_cons (s_for hp rfl (i_seq (d_tup (a_cons (d_tup (a_cons (d_var (i := 3) rfl (Or.inl rfl)) (a_cons (d_var (i := 4) rfl (Or.inl rfl)) (a_cons (d_var (i := 5) rfl (Or.inl rfl)) (a_cons (d_var (i := 6) rfl (Or.inl rfl)) a_nil))))) (a_cons (d_tup (a_cons (d_var (i := 4) rfl (Or.inl rfl)) (a_cons (d_var (i := 3) rfl (Or.inl rfl)) (a_cons (d_var (i := 5) rfl (Or.inl rfl)) (a_cons (d_var (i := 6) rfl (Or.inl rfl)) a_nil))))) (a_cons (d_tup (a_cons (d_var (i := 3) rfl (Or.inl rfl)) (a_cons (d_var (i := 4) rfl (Or.inl rfl)) (a_cons (d_var (i := 6) rfl (Or.inl rfl)) (a_cons (d_var (i := 5) rfl (Or.inl rfl)) a_nil))))) (a_cons (d_tup (a_cons (d_var (i := 4) rfl (Or.inl rfl)) (a_cons (d_var (i := 3) rfl (Or.inl rfl)) (a_cons (d_var (i := 6) rfl (Or.inl rfl)) (a_cons (d_var (i := 5) rfl (Or.inl rfl)) a_nil))))) (a_cons (d_tup (a_cons (d_var (i := 5) rfl (Or.inl rfl)) (a_cons (d_var (i := 6) rfl (Or.inl rfl)) (a_cons (d_var (i := 3) rfl (Or.inl rfl)) (a_cons (d_var (i := 4) rfl (Or.inl rfl)) a_nil))))) (a_cons (d_tup (a_cons (d_var (i := 6) rfl (Or.inl rfl)) (a_cons (d_var (i := 5) rfl (Or.inl rfl)) (a_cons (d_var (i := 3) rfl (Or.inl rfl)) (a_cons (d_var (i := 4) rfl (Or.inl rfl)) a_nil))))) (a_cons (d_tup (a_cons (d_var (i := 5) rfl (Or.inl rfl)) (a_cons (d_var (i := 6) rfl (Or.inl rfl)) (a_cons (d_var (i := 4) rfl (Or.inl rfl)) (a_cons (d_var (i := 3) rfl (Or.inl rfl)) a_nil))))) a_nil))))))))) (g_tup rfl (gs_cons (g_name nd (i := 8) rfl (Or.inl rfl) (Or.inr rfl)) (gs_cons (g_name nd (i := 9) rfl (Or.inl rfl) (Or.inr rfl)) (gs_cons (g_name nd (i := 10) rfl (Or.inl rfl) (Or.inr rfl)) (gs_cons (g_name nd (i := 11) rfl (Or.inl rfl) (Or.inr rfl)) gs_nil))))) (b_one (s_if (t_not (t_val (d_call (ok__law_same c 5) bd__law_same (hr.mono (by decide)) rfl tk (a_cons (d_call (ok_meeting c) bd_meeting (hr.mono (by decide)) rfl tk (a_cons (d_var (i := 8) rfl (Or.inl rfl)) (a_cons (d_var (i := 9) rfl (Or.inl rfl)) (a_cons (d_var (i := 10) rfl (Or.inl rfl)) (a_cons (d_var (i := 11) rfl (Or.inl rfl)) a_nil))))) (a_cons (d_var (i := 7) rfl (Or.inl rfl)) a_nil))))) (b_one (s_ret d_bl)) b_nil)))
      (b_one (s_if (t_not (t_val (d_call (ok__law_same c 5) bd__law_same (hr.mono (by decide)) rfl tk (a_cons (d_callK0 (idx := [3, 2, 1, 0]) (ok_meeting c) bk_meeting_0_s_r_q_p rfl (by decide) (hr.mono (by decide)) rfl tk (k_cons (d_var (i := 3) rfl (Or.inl rfl)) (k_cons (d_var (i := 4) rfl (Or.inl rfl)) (k_cons (d_var (i := 5) rfl (Or.inl rfl)) (k_cons (d_var (i := 6) rfl (Or.inl rfl)) k_nil))))) (a_cons (d_var (i := 7) rfl (Or.inl rfl)) a_nil))))) (b_one (s_ret d_bl)) b_nil))))))
      (b_one (s_ret d_bl))))


end
def fn : List He.DefD := [⟨("is_int", none), "is_int", "is_int", defArgs st_is_int, defBody st_is_int, defScope st_is_int, [], []⟩, ⟨("is_from", none), "is_from", "is_from", defArgs st_is_from, defBody st_is_from, defScope st_is_from, [], []⟩, ⟨("is_tuple", none), "is_tuple", "is_tuple", defArgs st_is_tuple, defBody st_is_tuple, defScope st_is_tuple, [], []⟩, ⟨("common_part", none), "common_part", "common_part", defArgs st_common_part, defBody st_common_part, defScope st_common_part, [], []⟩, ⟨("is_spot_value", none), "is_spot_value", "is_spot_value", defArgs st_is_spot_value, defBody st_is_spot_value, defScope st_is_spot_value, [], []⟩, ⟨("need_spot", none), "need_spot", "need_spot", defArgs st_need_spot, defBody st_need_spot, defScope st_need_spot, [], []⟩, ⟨("need_spots", none), "need_spots", "need_spots", defArgs st_need_spots, defBody st_need_spots, defScope st_need_spots, [], []⟩, ⟨("lowest_spot", none), "lowest_spot", "lowest_spot", defArgs st_lowest_spot, defBody st_lowest_spot, defScope st_lowest_spot, [], []⟩, ⟨("sign", none), "sign", "sign", defArgs st_sign, defBody st_sign, defScope st_sign, [], []⟩, ⟨("cross", none), "cross", "cross", defArgs st_cross, defBody st_cross, defScope st_cross, [], []⟩, ⟨("dot", none), "dot", "dot", defArgs st_dot, defBody st_dot, defScope st_dot, [], []⟩, ⟨("turn_of", none), "turn_of", "turn_of", defArgs st_turn_of, defBody st_turn_of, defScope st_turn_of, [], []⟩, ⟨("is_ahead", none), "is_ahead", "is_ahead", defArgs st_is_ahead, defBody st_is_ahead, defScope st_is_ahead, [], []⟩, ⟨("sorted_spots", none), "sorted_spots", "sorted_spots", defArgs st_sorted_spots, defBody st_sorted_spots, defScope st_sorted_spots, [], []⟩, ⟨("common_stretch", none), "common_stretch", "common_stretch", defArgs st_common_stretch, defBody st_common_stretch, defScope st_common_stretch, [], []⟩, ⟨("meeting_of", none), "meeting_of", "meeting_of", defArgs st_meeting_of, defBody st_meeting_of, defScope st_meeting_of, [], []⟩, ⟨("meeting", none), "meeting", "meeting", defArgs st_meeting, defBody st_meeting, defScope st_meeting, [], []⟩, ⟨("_law_deck", none), "_law_deck", "_law_deck", defArgs st__law_deck, defBody st__law_deck, defScope st__law_deck, [], []⟩, ⟨("_law_draw", none), "_law_draw", "_law_draw", defArgs st__law_draw, defBody st__law_draw, defScope st__law_draw, [], []⟩, ⟨("_law_pick", none), "_law_pick", "_law_pick", defArgs st__law_pick, defBody st__law_pick, defScope st__law_pick, [], []⟩, ⟨("_law_far", none), "_law_far", "_law_far", defArgs st__law_far, defBody st__law_far, defScope st__law_far, [], []⟩, ⟨("_law_is_bool", none), "_law_is_bool", "_law_is_bool", defArgs st__law_is_bool, defBody st__law_is_bool, defScope st__law_is_bool, [], []⟩, ⟨("_law_same", none), "_law_same", "_law_same", defArgs st__law_same, defBody st__law_same, defScope st__law_same, [], []⟩, ⟨("_law_gcd", none), "_law_gcd", "_law_gcd", defArgs st__law_gcd, defBody st__law_gcd, defScope st__law_gcd, [], []⟩, ⟨("_law_spot", none), "_law_spot", "_law_spot", defArgs st__law_spot, defBody st__law_spot, defScope st__law_spot, [], []⟩, ⟨("_law_number", none), "_law_number", "_law_number", defArgs st__law_number, defBody st__law_number, defScope st__law_number, [], []⟩, ⟨("_law_any_spot", none), "_law_any_spot", "_law_any_spot", defArgs st__law_any_spot, defBody st__law_any_spot, defScope st__law_any_spot, [], []⟩, ⟨("_law_most", none), "_law_most", "_law_most", defArgs st__law_most, defBody st__law_most, defScope st__law_most, [], []⟩, ⟨("_law_is_ahead", none), "_law_is_ahead", "_law_is_ahead", defArgs st__law_is_ahead, defBody st__law_is_ahead, defScope st__law_is_ahead, [], []⟩, ⟨("_law_along", none), "_law_along", "_law_along", defArgs st__law_along, defBody st__law_along, defScope st__law_along, [], []⟩, ⟨("_law_is_within", none), "_law_is_within", "_law_is_within", defArgs st__law_is_within, defBody st__law_is_within, defScope st__law_is_within, [], []⟩, ⟨("_law_meeting", none), "_law_meeting", "_law_meeting", defArgs st__law_meeting, defBody st__law_meeting, defScope st__law_meeting, [], []⟩, ⟨("_law_beside", none), "_law_beside", "_law_beside", defArgs st__law_beside, defBody st__law_beside, defScope st__law_beside, [], []⟩, ⟨("_law_on", none), "_law_on", "_law_on", defArgs st__law_on, defBody st__law_on, defScope st__law_on, [], []⟩, ⟨("_law_segments", none), "_law_segments", "_law_segments", defArgs st__law_segments, defBody st__law_segments, defScope st__law_segments, [], []⟩, ⟨("law", none), "law", "law", defArgs st_law, defBody st_law, defScope st_law, [], []⟩]
def fa : List He.Fa := [.glo "is_int", .glo "is_from", .glo "is_tuple", .glo "common_part", .glo "is_spot_value", .glo "need_spot", .glo "need_spots", .glo "lowest_spot", .glo "sign", .glo "cross", .glo "dot", .glo "turn_of", .glo "is_ahead", .glo "sorted_spots", .glo "common_stretch", .glo "meeting_of", .glo "meeting", .glo "_law_deck", .glo "_law_draw", .glo "_law_pick", .glo "_law_far", .glo "_law_is_bool", .glo "_law_same", .glo "_law_gcd", .glo "_law_spot", .glo "_law_number", .glo "_law_any_spot", .glo "_law_most", .glo "_law_is_ahead", .glo "_law_along", .glo "_law_is_within", .glo "_law_meeting", .glo "_law_beside", .glo "_law_on", .glo "_law_segments", .glo "law", .free "abs", .free "bool", .free "int", .free "isinstance", .free "len", .free "max", .free "min", .free "range", .free "str", .free "tuple", .free "zip", .str "ALONG" "along", .str "AT" "at"]
end K02

namespace K02
open PySem PySem.Spec PyProof.Rows L2 Mi
variable {S T : Sto} {N : Nat}
instance : Bd 53881 64 := ⟨by unfold Sm; decide⟩
instance : Bd 39373 64 := ⟨by unfold Sm; decide⟩
instance : Bd 48271 64 := ⟨by unfold Sm; decide⟩
instance : Bd 64 64 := ⟨by unfold Sm; decide⟩
instance : Bd 40692 64 := ⟨by unfold Sm; decide⟩
instance : Bd 8 64 := ⟨by unfold Sm; decide⟩
instance : Bd 9 64 := ⟨by unfold Sm; decide⟩
instance : Bd 60 64 := ⟨by unfold Sm; decide⟩
instance : Bd 100 64 := ⟨by unfold Sm; decide⟩
instance : Bd 40 64 := ⟨by unfold Sm; decide⟩
instance : Bd 1048576 64 := ⟨by unfold Sm; decide⟩
instance : Bd 1000000000 64 := ⟨by unfold Sm; decide⟩
instance : Bd 1000000000000000 64 := ⟨by unfold Sm; decide⟩
instance : Bd 4 64 := ⟨by unfold Sm; decide⟩
instance : Bd 5 64 := ⟨by unfold Sm; decide⟩
instance : Bd 6 64 := ⟨by unfold Sm; decide⟩
instance : Bd 7 64 := ⟨by unfold Sm; decide⟩
instance : Bd 12 64 := ⟨by unfold Sm; decide⟩
instance : Bd 15 64 := ⟨by unfold Sm; decide⟩
instance : Bd 17 64 := ⟨by unfold Sm; decide⟩
instance : Bd 18 64 := ⟨by unfold Sm; decide⟩
instance : Bd 20 64 := ⟨by unfold Sm; decide⟩
instance : Bd 31 64 := ⟨by unfold Sm; decide⟩
instance : Bd 43 64 := ⟨by unfold Sm; decide⟩
instance : Bd 50 64 := ⟨by unfold Sm; decide⟩
instance : Bd 63 64 := ⟨by unfold Sm; decide⟩
instance : Bd 47367 64 := ⟨by unfold Sm; decide⟩
instance : Bd 100000 64 := ⟨by unfold Sm; decide⟩
instance : Bd 15374020 64 := ⟨by unfold Sm; decide⟩
instance : Bd 2147483563 64 := ⟨by unfold Sm; decide⟩
instance : Bd 2147483587 64 := ⟨by unfold Sm; decide⟩
instance : Bd 2147483629 64 := ⟨by unfold Sm; decide⟩
instance : Bd 2147483647 64 := ⟨by unfold Sm; decide⟩
instance : Bd 1000000000000000000 64 := ⟨by unfold Sm; decide⟩
theorem is_int_eq {i : Int} : m_is_int [.int i] S = .ok (.bl true) S := ens_eq (by
  simp [m_is_int, b_is_int, startE, isiD, D.tyn, askTys, isiB])
theorem is_from_eq {i j : Int} : m_is_from [.int i, .int j] S = .ok (.bl (decide (j ≤ i))) S := ens_eq (by
  simp [m_is_from, b_is_from, startE, Ens_is is_int_eq])
theorem is_tuple_eq {l : List D} {j : Int} : m_is_tuple [.tup l, .int j] S = .ok (.bl (decide ((l.length : Int) = j))) S := ens_eq (by
  simp [m_is_tuple, b_is_tuple, startE, isiD, D.tyn, askTys, isiB])
theorem bd_mod {i j : Int} (k : Nat) (h : 0 < j) (hj : j ≤ 2 ^ k) : Bd (i.fmod j) k := by
  rw [Int.fmod_eq_emod_of_nonneg _ (by omega)]
  have := Int.emod_lt_of_pos i h
  have := Int.emod_nonneg i (b := j) (by omega)
  exact bd_lt (by omega) (by omega)
theorem draw_ok {N : Nat} {T S : Sto} {many : Int} (h : DkP N T S) (hN : N ≤ 1000000000) (h1 : 1 ≤ many) (hb : Bd many 1000) :
    Ens (m__law_draw [.loc 1, .int many] S) fun a S' => ∃ v, a = .int v ∧ 0 ≤ v ∧ v < many ∧ DkP (N + 1) T S' := by
  obtain ⟨c, m, n, hS, hc, hm0, hm1, hn0, hn1⟩ := h
  subst hS
  have b1 : Bd n 64 := bd_lt (by omega) (by omega)
  have b2 : Bd m 64 := bd_lt (by omega) (by omega)
  have hm : many ≠ 0 := by omega
  have hx : (if 2 < many then many else 2) ≠ 0 := by split <;> omega
  have hd : ∀ i : Int, 0 ≤ i.fmod many ∧ i.fmod many < many := fun i => by
    rw [Int.fmod_eq_emod_of_nonneg _ (by omega)]
    exact ⟨Int.emod_nonneg i hm, Int.emod_lt_of_pos i (by omega)⟩
  have e1 : ∀ i : Int, Bd (i.fmod 2147483563) 64 := fun i => bd_mod 64 (by decide) (by decide)
  have e2 : ∀ i : Int, Bd (i.fmod 2147483647) 64 := fun i => bd_mod 64 (by decide) (by decide)
  have e3 : ∀ i : Int, Bd (i.fmod 2147483587) 64 := fun i => bd_mod 64 (by decide) (by decide)
  have fin : ∀ (i : Int) (c' : List Int), c'.length ≤ 63 → ∃ v, D.int (i.fmod many) = .int v ∧ 0 ≤ v ∧ v < many ∧ DkP (N + 1) T (deckS c' m (n + 1) T) := fun i c' hc' =>
    ⟨_, rfl, (hd i).1, (hd i).2, c', m, n + 1, rfl, hc', hm0, hm1, by omega, by omega⟩
  simp [m__law_draw, b__law_draw, startE, modD_int, fdivD_int, hm]
  refine ⟨fun hne => ?_, fun he => ?_⟩
  · have hl : c.dropLast.length ≤ 62 := by simp; omega
    simp [dk_pop hne, modD_int, fdivD_int, hm, hx]
    refine ⟨fun _ => ?_, fun _ => ?_⟩
    · rw [dk_app (by omega)]
      simp [modD_int, hm]
      exact ⟨(hd _).1, (hd _).2, _, m, n + 1, rfl, by simp; omega, hm0, hm1, by omega, by omega⟩
    · exact ⟨(hd _).1, (hd _).2, _, m, n + 1, rfl, by omega, hm0, hm1, by omega, by omega⟩
  · exact ⟨(hd _).1, (hd _).2, _, m, n + 1, rfl, by omega, hm0, hm1, by omega, by omega⟩
theorem cp_eq {x y : Int} : m_common_part [.int x, .int y] S = .ok (.int (g2 x y)) S := ens_eq (by
  simp [m_common_part, b_common_part, startE]
  generalize ha : (if x < 0 then -x else x) = a
  generalize hb : (if y < 0 then -y else y) = b
  have e : g2 x y = g2 a b := by rw [← ha, ← hb, g2_abs]
  rw [e]
  have ha0 : 0 ≤ a := by rw [← ha]; split <;> omega
  have hb0 : 0 ≤ b := by rw [← hb]; split <;> omega
  clear ha hb e
  obtain ⟨n, hn⟩ : ∃ n : Nat, b ≤ n := ⟨b.toNat, by omega⟩
  induction n generalizing a b with
  | zero =>
    have : b = 0 := by omega
    subst this
    rw [EnsS_while]
    simp [g2_zero ha0]
  | succ n ih =>
    rw [EnsS_while]
    by_cases h : b = 0
    · subst h
      simp [g2_zero ha0]
    · simp [h, modD_int]
      rw [Int.fmod_eq_emod_of_nonneg _ hb0, ← g2_step ha0 (by omega)]
      exact ih _ _ (by omega) (Int.emod_nonneg _ h) (by have := Int.emod_lt_of_pos a (b := b) (by omega); omega))
theorem lgcd_eq {x y : Int} : m__law_gcd [.int x, .int y] S = .ok (.int (g2 x y)) S := ens_eq (by
  simp [m__law_gcd, b__law_gcd, startE]
  generalize ha : (if x < 0 then -x else x) = a
  generalize hb : (if y < 0 then -y else y) = b
  have e : g2 x y = g2 a b := by rw [← ha, ← hb, g2_abs]
  rw [e]
  have ha0 : 0 ≤ a := by rw [← ha]; split <;> omega
  have hb0 : 0 ≤ b := by rw [← hb]; split <;> omega
  clear ha hb e
  obtain ⟨n, hn⟩ : ∃ n : Nat, b ≤ n := ⟨b.toNat, by omega⟩
  induction n generalizing a b with
  | zero =>
    have : b = 0 := by omega
    subst this
    rw [EnsS_while]
    simp [g2_zero ha0]
  | succ n ih =>
    rw [EnsS_while]
    by_cases h : b = 0
    · subst h
      simp [g2_zero ha0]
    · have hp : 0 < b := by omega
      have hp' : ¬ b ≤ 0 := by omega
      simp [h, hp, hp', modD_int]
      rw [Int.fmod_eq_emod_of_nonneg _ hb0, ← g2_step ha0 (by omega)]
      exact ih _ _ (by omega) (Int.emod_nonneg _ h) (by have := Int.emod_lt_of_pos a (b := b) (by omega); omega))
theorem low3_eq {x y w : Int} {m : Nat} [b : Bd w m] (hm : m ≤ 8000) (h : 0 < w) : m_lowest_spot [.int x, .int y, .int w] S = .ok (spD3 x y w) S := ens_eq (by
  have hg := g3_pos (x := x) (y := y) h
  have hg' : g2 (g2 x y) w ≠ 0 := by unfold g3 at hg; omega
  have b1 : Bd (g2 (g2 x y) w) m := bd_g2 h
  have hd : ¬ w < 0 := by omega
  have hd' : 0 ≤ w := by omega
  have hq : 0 ≤ g2 (g2 x y) w := g2_nonneg _ _
  simp [m_lowest_spot, b_lowest_spot, startE, Ens_is cp_eq, hd, hd', fdivD_int, hm, hg', spD3, g3, Int.fdiv_eq_ediv_of_nonneg _ hq])
theorem lspot_eq {x y w : Int} {m : Nat} [b : Bd w m] (hm : m ≤ 8000) (h : 0 < w) : m__law_spot [.int x, .int y, .int w] S = .ok (spD3 x y w) S := ens_eq (by
  have hg := g3_pos (x := x) (y := y) h
  have hg' : g2 (g2 x y) w ≠ 0 := by unfold g3 at hg; omega
  have b1 : Bd (g2 (g2 x y) w) m := bd_g2 h
  have hd : ¬ w < 0 := by omega
  have hd' : 0 ≤ w := by omega
  have hq : 0 ≤ g2 (g2 x y) w := g2_nonneg _ _
  simp [m__law_spot, b__law_spot, startE, Ens_is lgcd_eq, hd, hd', fdivD_int, hm, hg', spD3, g3, Int.fdiv_eq_ediv_of_nonneg _ hq])
abbrev t3 (x y w : Int) : D := .tup [.int x, .int y, .int w]
abbrev t2 (x y : Int) : D := .tup [.int x, .int y]
theorem isv_eq {x y w : Int} (hw : 1 ≤ w) (hg : g3 x y w = 1) : m_is_spot_value [t3 x y w] S = .ok (.bl true) S := ens_eq (by
  have e : g2 (g2 x y) w = 1 := hg
  simp [m_is_spot_value, b_is_spot_value, startE, Ens_is is_tuple_eq, Ens_is is_int_eq, Ens_is is_from_eq, Ens_is cp_eq, hw, e])
theorem need1_eq {x y w : Int} (hw : 1 ≤ w) (hg : g3 x y w = 1) : m_need_spot [t3 x y w] S = .ok .non S := ens_eq (by
  simp [m_need_spot, b_need_spot, startE, Ens_is (isv_eq hw hg)])
theorem need2_eq {x y w a b c : Int} (hw : 1 ≤ w) (hg : g3 x y w = 1) (hc : 1 ≤ c) (hg2 : g3 a b c = 1) : m_need_spots [.tup [t3 x y w, t3 a b c]] S = .ok .non S := ens_eq (by
  simp [m_need_spots, b_need_spots, startE, EnsS_for_cons, EnsS_for_nil, Ens_is (need1_eq hw hg), Ens_is (need1_eq hc hg2)])
theorem need3_eq {x y w a b c d e f : Int} (hw : 1 ≤ w) (hg : g3 x y w = 1) (hc : 1 ≤ c) (hg2 : g3 a b c = 1) (hf : 1 ≤ f) (hg3 : g3 d e f = 1) : m_need_spots [.tup [t3 x y w, t3 a b c, t3 d e f]] S = .ok .non S := ens_eq (by
  simp [m_need_spots, b_need_spots, startE, EnsS_for_cons, EnsS_for_nil, Ens_is (need1_eq hw hg), Ens_is (need1_eq hc hg2), Ens_is (need1_eq hf hg3)])
section
variable {p0 p1 p2 q0 q1 q2 r0 r1 r2 n d : Int} [Bd p0 50] [Bd p1 50] [Bd p2 50] [Bd q0 50] [Bd q1 50] [Bd q2 50] [Bd r0 50] [Bd r1 50] [Bd r2 50]
def shX (a b pw qw n d : Int) : Int := a * qw * (d - n) + b * pw * n
theorem lalong_eq {i j : Nat} [Bd n i] [Bd d j] (hi : i ≤ 2000) (hj : j ≤ 2000) (hp : 0 < p2) (hq : 0 < q2) (hd : 0 < d) :
    m__law_along [t3 p0 p1 p2, t3 q0 q1 q2, .int n, .int d] S = .ok (spD3 (shX p0 q0 p2 q2 n d) (shX p1 q1 p2 q2 n d) (p2 * q2 * d)) S := ens_eq (by
  have hw : 0 < p2 * q2 * d := Int.mul_pos (Int.mul_pos hp hq) hd
  have e := fun S x y => lspot_eq (S := S) (x := x) (y := y) (w := p2 * q2 * d) (m := 100 + j) (by omega) hw
  simp [m__law_along, b__law_along, startE, Ens_is (e _ _ _), shX, show j ≤ 60000 by omega, show i ≤ 60000 by omega, show j + i + 1 ≤ 60000 by omega])
end
@[simp] theorem rep2 {a : D} : (List.replicate (2 : Int).toNat [a]).flatten = [a, a] := rfl
@[simp] theorem rep3 {a : D} : (List.replicate (3 : Int).toNat [a]).flatten = [a, a, a] := rfl
def fit : Nat → D → Bool
  | 0, _ => false
  | n + 1, .tup l => l.all (fit n) && decide (l.length ≤ 1000)
  | _ + 1, .int _ => true
  | _ + 1, .bl _ => true
  | _ + 1, .non => true
  | _ + 1, .str x => SeqAt.shaped (.str x)
  | _ + 1, _ => false
theorem isbool_ok {b : Bool} : m__law_is_bool [.bl b, .bl b] S = .ok (.bl true) S := ens_eq (by
  cases b <;> simp [m__law_is_bool, b__law_is_bool, startE, D.isBl])
theorem zipD_get' {l m : List D} {i : Nat} {d : D} (h : (zipD l m)[i]? = some d) : ∃ x y, l[i]? = some x ∧ m[i]? = some y ∧ d = .tup [x, y] := by
  unfold zipD at h
  rw [List.getElem?_map] at h
  cases e : (l.zip m)[i]? with
  | none => rw [e] at h; cases h
  | some p =>
    rw [e] at h
    cases h
    rw [List.getElem?_zip_eq_some] at e
    exact ⟨_, _, e.1, e.2, rfl⟩
theorem same_ok : ∀ (n : Nat) (d : D), fit n d = true → ∀ S, m__law_same n [d, d] S = .ok (.bl true) S
  | 0, d, h => by cases h
  | n + 1, d, h => fun S => ens_eq (by
    have ih := same_ok n
    cases d with
    | int i => simp [m__law_same, b__law_same, startE, isiD, D.tyn, askTys, isiB, D.isNon]
    | bl i =>
      simp [m__law_same, b__law_same, startE, isiD, D.tyn, askTys, isiB, D.isNon, Ens_is isbool_ok]
    | non => simp [m__law_same, b__law_same, startE, isiD, D.tyn, askTys, isiB, D.isNon]
    | str x =>
      have hx : SeqAt.shaped (.str x) = true := h
      simp [m__law_same, b__law_same, startE, isiD, D.tyn, askTys, isiB, D.isNon, eqD, der, D.py, hx, PyData.eqv]
    | tup l =>
      have h' : l.all (fit n) = true ∧ l.length ≤ 1000 := by simpa [fit] using h
      simp [m__law_same, b__law_same, startE, isiD, D.tyn, askTys, isiB, D.isNon]
      refine lc_inv (fun k acc T => acc = [] ∧ T = S) _ 0 [] S ⟨rfl, rfl⟩ (fun _ _ _ _ _ _ => trivial) (fun i d acc T _ hd hi => ?_) (fun acc T hi => ?_)
      · obtain ⟨x, y, hx, hy, e⟩ := zipD_get' hd
        subst e
        rw [hx] at hy
        cases hy
        have hf : fit n x = true := List.all_eq_true.mp h'.1 x (List.mem_of_getElem? hx)
        obtain ⟨h1, h2⟩ := hi
        subst h1 h2
        simp [wipeE, Ens_is (ih x hf _)]
      · obtain ⟨h1, h2⟩ := hi
        subst h1 h2
        simp [eqD, der, D.py, D.pys, SeqAt.shaped, PyData.canLay0, PyData.canLayAll0, PyData.depth, PyData.depthAll, PyData.eqv, PyData.eqvAll]
    | _ => cases h)
theorem pick_ok {l : List D} (h : DkP N T S) (hN : N ≤ 1000000000) (hl : l ≠ []) (hlen : l.length ≤ 1000) :
    Ens (m__law_pick [.loc 1, .tup l] S) fun a S' => a ∈ l ∧ DkP (N + 1) T S' := by
  have h0 : 0 < l.length := List.length_pos_iff.mpr hl
  have b : Bd (l.length : Int) 64 := bd_lt (by omega) (by omega)
  simp [m__law_pick, b__law_pick, startE]
  refine (draw_ok h hN (by omega) (Bd.up b (by decide))).mono ?_
  rintro _ S1 ⟨v, ha, hv0, hv1, h1⟩
  subst ha
  obtain ⟨d, e1, e2⟩ := atI_nat (l := l) hv0 hv1
  rw [ixD_tup, e1]
  exact ⟨List.mem_of_getElem? e2, h1⟩
theorem far_ok {many : Int} (h : DkP N T S) (hN : N + 3 ≤ 1000000000) (h1 : 1 ≤ many) :
    Ens (m__law_far [.loc 1, .int many] S) fun a S' => ∃ v, a = .int v ∧ 0 ≤ v ∧ v < many ∧ DkP (N + 3) T S' := by
  have hm : many ≠ 0 := by omega
  simp [m__law_far, b__law_far, startE]
  refine (draw_ok h (by omega) (by decide) (Bd.up inferInstance (by decide))).mono ?_
  rintro _ S1 ⟨v1, ha, hv0, hv1, h2⟩
  subst ha
  have b1 : Bd v1 64 := bd_lt (by omega) (by omega)
  simp [shlD_c]
  refine (draw_ok h2 (by omega) (by decide) (Bd.up inferInstance (by decide))).mono ?_
  rintro _ S2 ⟨v2, ha, hw0, hw1, h3⟩
  subst ha
  have b2 : Bd v2 64 := bd_lt (by omega) (by omega)
  simp [shlD_c]
  refine (draw_ok h3 (by omega) (by decide) (Bd.up inferInstance (by decide))).mono ?_
  rintro _ S3 ⟨v3, ha, hu0, hu1, h4⟩
  subst ha
  simp [modD_int, hm]
  rw [Int.fmod_eq_emod_of_nonneg _ (by omega)]
  exact ⟨Int.emod_nonneg _ hm, Int.emod_lt_of_pos _ (by omega), h4⟩
theorem number_ok {most : Int} (h : DkP N T S) (hN : N + 4 ≤ 1000000000) (h1 : 1 ≤ most) (h2 : most ≤ 1000000000000000) :
    Ens (m__law_number [.loc 1, .int most] S) fun a S' => ∃ v, a = .int v ∧ -most ≤ v ∧ v ≤ most ∧ DkP (N + 4) T S' := by
  have b : Bd most 64 := bd_lt (by omega) (by omega)
  simp [m__law_number, b__law_number, startE]
  refine (draw_ok h (by omega) (by decide) (Bd.up inferInstance (by decide))).mono ?_
  rintro _ S1 ⟨v1, ha, hv0, hv1, h3⟩
  subst ha
  simp
  refine ⟨fun _ => ?_, fun _ => ?_⟩
  · refine (pick_ok h3 (by omega) (by simp) (by simp)).mono ?_
    rintro a S2 ⟨ha, h4⟩
    have h5 := h4.up (M := N + 4) (by omega)
    simp at ha
    rcases ha with e | e | e | e | e | e | e | e <;> subst e <;> exact ⟨_, rfl, by omega, by omega, h5⟩
  · refine (far_ok h3 (by omega) (by omega)).mono ?_
    rintro _ S2 ⟨v2, ha, hw0, hw1, h4⟩
    subst ha
    simp
    exact ⟨by omega, by omega, h4⟩
def SpOk (M : Int) (d : D) : Prop := ∃ x y w, d = t3 x y w ∧ -M ≤ x ∧ x ≤ M ∧ -M ≤ y ∧ y ≤ M ∧ 1 ≤ w ∧ w ≤ M ∧ g3 x y w = 1
theorem SpOk.up {M M' : Int} {d : D} (h : SpOk M d) (k : M ≤ M') : SpOk M' d := by
  obtain ⟨x, y, w, e, h1, h2, h3, h4, h5, h6, h7⟩ := h
  exact ⟨x, y, w, e, by omega, by omega, by omega, by omega, h5, by omega, h7⟩
theorem spD3_ok {M x y w : Int} (h1 : -M ≤ x) (h2 : x ≤ M) (h3 : -M ≤ y) (h4 : y ≤ M) (h5 : 1 ≤ w) (h6 : w ≤ M) : SpOk M (spD3 x y w) := by
  obtain ⟨g, a, b, c, hg, ha, hb, hc, hc0, hcw, hl, e, e1, e2⟩ := low_parts (x := x) (y := y) (w := w) (by omega)
  exact ⟨a, b, c, e, by omega, by omega, by omega, by omega, by omega, by omega, hl⟩
theorem anyspot_ok {most : Int} (h : DkP N T S) (hN : N + 20 ≤ 1000000000) (h1 : 1 ≤ most) (h2 : most ≤ 1000000000000000) :
    Ens (m__law_any_spot [.loc 1, .int most] S) fun a S' => SpOk most a ∧ DkP (N + 20) T S' := by
  have b : Bd most 64 := bd_lt (by omega) (by omega)
  simp [m__law_any_spot, b__law_any_spot, startE]
  refine (draw_ok h (by omega) (by decide) (Bd.up inferInstance (by decide))).mono ?_
  rintro _ S1 ⟨v1, ha, hv0, hv1, h3⟩
  subst ha
  simp
  refine (far_ok h3 (by omega) (by omega)).mono ?_
  rintro _ S2 ⟨v2, ha, hw0, hw1, h4⟩
  subst ha
  simp
  refine (pick_ok h4 (by omega) (by simp) (by simp)).mono ?_
  rintro a S3 ⟨ha, h5⟩
  have hw : ∃ w, a = .int w ∧ 1 ≤ w := by
    simp at ha
    rcases ha with e | e | e | e | e | e <;> subst e <;> exact ⟨_, rfl, by omega⟩
  obtain ⟨w, e, hw1⟩ := hw
  subst e
  refine (number_ok h5 (by omega) h1 h2).mono ?_
  rintro _ S4 ⟨x, ha, hx0, hx1, h6⟩
  subst ha
  simp
  refine (number_ok h6 (by omega) h1 h2).mono ?_
  rintro _ S5 ⟨y, ha, hy0, hy1, h7⟩
  subst ha
  have hm : 1 ≤ (if most < w then most else w) ∧ (if most < w then most else w) ≤ most := by split <;> omega
  generalize (if most < w then most else w) = u at hm
  have bu : Bd u 64 := bd_lt (by omega) (by omega)
  rw [Ens_is (lspot_eq (m := 64) (by decide) (by omega))]
  exact ⟨spD3_ok hx0 hx1 hy0 hy1 hm.1 hm.2, h7.up (by omega)⟩
theorem most_ok (h : DkP N T S) (hN : N + 1 ≤ 1000000000) :
    Ens (m__law_most [.loc 1] S) fun a S' => ∃ m, a = .int m ∧ 2 ≤ m ∧ m ≤ 1000000000000000 ∧ DkP (N + 1) T S' := by
  simp [m__law_most, b__law_most, startE]
  refine (pick_ok h (by omega) (by simp) (by simp)).mono ?_
  rintro a S2 ⟨ha, h4⟩
  simp at ha
  rcases ha with e | e | e | e | e | e | e | e | e | e <;> subst e <;> exact ⟨_, rfl, by omega, by omega, h4⟩
theorem cut_map {f : Int → D} {l : List Int} {lo hi : Option Int} : ∃ l' : List Int, Mi.cutD (l.map f) lo hi = l'.map f ∧ l'.length ≤ l.length := by
  refine ⟨(l.drop (HT.sIx l.length 0 lo)).take (HT.sIx l.length l.length hi - HT.sIx l.length 0 lo), ?_, ?_⟩
  · unfold Mi.cutD
    rw [List.length_map, List.map_take, List.map_drop]
  · rw [List.length_take, List.length_drop]; omega
theorem getI {l : List Int} {i : Nat} {d : D} (h : (l.map D.int)[i]? = some d) : ∃ v, l[i]? = some v ∧ d = .int v := by
  rw [List.getElem?_map] at h
  cases e : l[i]? with
  | none => rw [e] at h; cases h
  | some v => rw [e] at h; cases h; exact ⟨v, rfl, rfl⟩
theorem deck_ok (ns : List Int) (hl : ns.length ≤ 63) (d : D) (hd : d = D.lst (ns.map D.int) ∨ d = D.wls (ns.map D.int)) :
    Ens (m__law_deck [d] []) fun a S' => a = .loc 1 ∧ DkP 0 [] S' := by
  obtain ⟨l', e, hl'⟩ := cut_map (f := D.int) (l := ns) (lo := none) (hi := some 63)
  have hs : ∀ S, slD S d none (some 63) = some (.lst (l'.map D.int)) := fun S => by
    rw [← e]
    rcases hd with h | h <;> subst h <;> rfl
  simp [m__law_deck, b__law_deck, startE, hs]
  refine for_inv (fun k env S => S = [] ∧ ∃ (m : Int) (x : Option D), 0 ≤ m ∧ m < 2147483629 ∧ env = [some d, some (.int m), x]) _ 0 _ _ ⟨rfl, 15374020, none, by decide, by decide, rfl⟩ (fun _ _ _ _ _ _ => trivial) (fun i d' env S _ hd' hi => ?_) (fun env S hi => ?_)
  · obtain ⟨e1, m, x, h0, h1, e2⟩ := hi
    obtain ⟨v, _, e3⟩ := getI hd'
    subst e1 e2 e3
    have b : Bd m 64 := bd_lt (by omega) (by omega)
    simp [modD_int]
    rw [Int.fmod_eq_emod_of_nonneg _ (by decide)]
    exact ⟨Int.emod_nonneg _ (by decide), Int.emod_lt_of_pos _ (by decide)⟩
  · obtain ⟨e1, m, x, h0, h1, e2⟩ := hi
    subst e1 e2
    simp [hs, wipeE]
    refine lc_inv (fun k acc S => S = [] ∧ acc = (l'.take k).map D.int) _ 0 _ _ ⟨rfl, rfl⟩ (fun _ _ _ _ _ _ => trivial) (fun i d' acc S hk hd' hi => ?_) (fun acc S hi => ?_)
    · obtain ⟨e1, e2⟩ := hi
      obtain ⟨v, e4, e3⟩ := getI hd'
      subst e1 e3
      have hlen : acc.length < 16777216 := by rw [e2, List.length_map, List.length_take]; omega
      simp [hlen]
      rw [e2, List.take_succ]
      rw [show i - 0 = i from rfl] at e4
      simp [e4]
    · obtain ⟨e1, e2⟩ := hi
      subst e1
      have e3 : acc = l'.map D.int := by
        rw [e2]; simp
      subst e3
      simp [revD, kvsD, keyD]
      refine ⟨l'.reverse, m, 0, ?_, by simp; omega, h0, h1, by decide, by decide⟩
      rw [← List.map_reverse]
      rfl
theorem SpOk.get {d : D} (h : SpOk 1000000000000000 d) : ∃ x y w, d = t3 x y w ∧ Bd x 50 ∧ Bd y 50 ∧ Bd w 50 ∧ 1 ≤ w ∧ g3 x y w = 1 := by
  obtain ⟨x, y, w, e, h1, h2, h3, h4, h5, h6, h7⟩ := h
  exact ⟨x, y, w, e, bd_lt (by omega) (by omega), bd_lt (by omega) (by omega), bd_lt (by omega) (by omega), h5, h7⟩
def absI (x : Int) : Int := if x < 0 then -x else x
theorem within_ok {x y w M : Int} : ∃ b, m__law_is_within [t3 x y w, .int M] S = .ok (.bl b) S ∧ (b = true → -M ≤ x ∧ x ≤ M ∧ -M ≤ y ∧ y ≤ M ∧ w ≤ M) := by
  refine ⟨decide (absI x ≤ M ∧ absI y ≤ M ∧ w ≤ M), ens_eq ?_, fun h => ?_⟩
  · have e1 : ∀ x : Int, (if x < 0 then -x else x) = absI x := fun x => rfl
    simp [m__law_is_within, b__law_is_within, startE, e1]
    refine ⟨fun h => ⟨fun h2 => ?_, fun h2 => ?_⟩, fun h => ?_⟩
    · simp [h, h2]
    · simp [h, show ¬ absI y ≤ M by omega]
    · simp [show ¬ absI x ≤ M by omega]
  · have h' := of_decide_eq_true h
    unfold absI at h'
    obtain ⟨h1, h2, h3⟩ := h'
    refine ⟨?_, ?_, ?_, ?_, h3⟩
    · split at h1 <;> omega
    · split at h1 <;> omega
    · split at h2 <;> omega
    · split at h2 <;> omega
theorem rng_get {n i : Nat} {d : D} (h : (rangeD 0 n)[i]? = some d) : i < n ∧ d = .int (i : Int) := by
  have hi : i < n := by
    have := (List.getElem?_eq_some_iff.mp h).1
    rwa [rangeD_length] at this
  rw [rangeD_get hi] at h
  cases h
  exact ⟨hi, by simp⟩
theorem low_bd {x y w : Int} {i j : Nat} [bx : Bd x i] [by_ : Bd y i] [bw : Bd w j] (hw : 0 < w) : ∃ a b c, spD3 x y w = t3 a b c ∧ 0 < c ∧ Bd a i ∧ Bd b i ∧ Bd c j ∧ g3 a b c = 1 := by
  obtain ⟨g, a, b, c, hg, ha, hb, hc, hc0, hcw, hl, e, h1, h2⟩ := low_parts (x := x) (y := y) hw
  exact ⟨a, b, c, e, hc0, ⟨bx.h.of_le h1⟩, ⟨by_.h.of_le h2⟩, ⟨bw.h.of_le (by omega)⟩, hl⟩
theorem app_end {l : List D} {d : D} (h : l.length < 16777216) : appD (S ++ [.lst l]) (.loc S.length) [d] = some (.non, S ++ [.lst (l ++ [d])]) := by
  have e : (S ++ [O.lst l])[S.length]? = some (.lst l) := by simp
  have e2 : (S ++ [O.lst l]).set S.length (.lst (l ++ [d])) = S ++ [.lst (l ++ [d])] := by simp
  unfold appD
  simp only [e, h, if_true, e2]
theorem isT_end {l : List D} : isT (S ++ [.lst l]) "list" (.loc S.length) = true := by
  have e : (S ++ [O.lst l])[S.length]? = some (.lst l) := by simp
  unfold isT
  simp only [e]
  rfl
theorem tuple_end {l : List D} : tupleD (S ++ [.lst l]) [.loc S.length] = some (.tup l) := by
  have e : (S ++ [O.lst l])[S.length]? = some (.lst l) := by simp
  simp [tupleD, seqD, der, e]
theorem ens_gc {r : R D} {P : D → Sto → Prop} (h : Ens r fun d S' => gcOk S S' ∧ d.lo S.length ∧ P d (S'.take S.length)) : Ens (gcR S r) P := by
  cases r with
  | ok d S' =>
    obtain ⟨h1, h2, h3⟩ := h
    simp only [gcR]
    rw [if_pos ⟨h1, h2⟩]
    exact h3
  | exc C fs S' => exact h.elim
  | bad => exact h.elim
theorem gc_app {o : O} : gcOk S (S ++ [o]) := ⟨by simp, fun i hi => .inl (by rw [List.getElem?_append_left hi])⟩
theorem atI_map {l : List D} {d : D} {f : D → D} (h : L2.atI l 0 = some d) : L2.atI (l.map f) 0 = some (f d) := by
  cases l with
  | nil => simp [L2.atI, L2.ixN] at h
  | cons a l => simp at h ⊢; rw [h]
theorem atI_mem {l : List D} {d : D} (h : L2.atI l 0 = some d) : d ∈ l := by
  cases l with
  | nil => simp [L2.atI, L2.ixN] at h
  | cons a l => simp at h; subst h; exact List.mem_cons_self
theorem shX_rev {a b pw qw n d : Int} : shX b a qw pw (d - n) d = shX a b pw qw n d := by
  unfold shX
  grind
theorem sq_nonneg (a : Int) : 0 ≤ a * a := by
  rcases Int.le_total 0 a with h | h
  · exact Int.mul_nonneg h h
  · exact Int.mul_nonneg_of_nonpos_of_nonpos h h
theorem sq_pos {a : Int} (h : a ≠ 0) : 0 < a * a := by
  have := sq_nonneg a
  have : a * a ≠ 0 := fun z => by
    rcases Int.mul_eq_zero.mp z with q | q <;> exact h q
  omega
def Sps (l : List D) : Prop := ∀ x ∈ l, SpOk 1000000000000000 x
theorem isv_ok {d : D} (h : SpOk 1000000000000000 d) : m_is_spot_value [d] S = .ok (.bl true) S := by
  obtain ⟨x, y, w, e, bx, by_, bw, hw, hg⟩ := h.get
  subst e
  exact isv_eq hw hg
theorem sps_py {l : List D} (h : Sps l) : PyData.canLayAll0 (D.pys l) = true ∧ PyData.depthAll (D.pys l) ≤ 1 := by
  induction l with
  | nil => exact ⟨rfl, by decide⟩
  | cons a l ih =>
    obtain ⟨x, y, w, e, _⟩ := (h a List.mem_cons_self).get
    subst e
    obtain ⟨h1, h2⟩ := ih fun x hx => h x (List.mem_cons_of_mem _ hx)
    simp [D.pys, D.py, PyData.canLayAll0, PyData.depthAll, PyData.canLay0, PyData.depth, h1, h2]
theorem eq_nil {l : List D} (h : Sps l) (hne : l ≠ []) : eqD S (.tup l) (.tup []) = some (.bl false) := by
  obtain ⟨h1, h2⟩ := sps_py h
  have s1 : SeqAt.shaped (der S (.tup l)).py = true := by
    simp [der, SeqAt.shaped, D.py, PyData.canLay0, PyData.depth, h1]
    omega
  have s2 : SeqAt.shaped (der S (D.tup [])).py = true := by simp [der, SeqAt.shaped, D.py, D.pys, PyData.canLay0, PyData.canLayAll0, PyData.depthAll, PyData.depth]
  unfold eqD
  rw [if_pos ⟨s1, s2⟩]
  cases l with
  | nil => exact absurd rfl hne
  | cons a l => simp [der, D.py, D.pys, PyData.eqv, PyData.eqvAll]
theorem bls_rep {k : Nat} : blsD (List.replicate k (D.bl true)) = some (List.replicate k true) := by
  induction k with
  | zero => rfl
  | succ k ih => simp [List.replicate_succ, blsD, ih]
end K02

namespace K02
open PySem PySem.Spec PyProof.Rows L2 Mi
variable {S T : Sto} {N : Nat}
structure V3 where
  (x y w : Int)
abbrev V3.d (p : V3) : D := .tup [.int p.x, .int p.y, .int p.w]
class V3.Ok (p : V3) : Prop where
  bx : Bd p.x 50
  by_ : Bd p.y 50
  bw : Bd p.w 50
  w1 : 1 ≤ p.w
  g : g3 p.x p.y p.w = 1
instance {p : V3} [h : V3.Ok p] : Bd p.x 50 := h.bx
instance {p : V3} [h : V3.Ok p] : Bd p.y 50 := h.by_
instance {p : V3} [h : V3.Ok p] : Bd p.w 50 := h.bw
theorem V3.Ok.pos (p : V3) [h : V3.Ok p] : 0 < p.w := by have := h.w1; omega
def det (p q r : V3) : Int := p.x * (q.y * r.w - q.w * r.y) + p.y * (q.w * r.x - q.x * r.w) + p.w * (q.x * r.y - q.y * r.x)
def aheadV (p q : V3) : Bool := decide (p.x * q.w < q.x * p.w) || (decide (p.x * q.w = q.x * p.w) && decide (p.y * q.w < q.y * p.w))
section
variable {p q r s : V3} [V3.Ok p] [V3.Ok q] [V3.Ok r] [V3.Ok s]
theorem need4_eq : m_need_spots [.tup [p.d, q.d, r.d, s.d]] S = .ok .non S := ens_eq (by
  simp [m_need_spots, b_need_spots, startE, EnsS_for_cons, EnsS_for_nil, Ens_is (need1_eq V3.Ok.w1 V3.Ok.g)])
theorem ahead_eq : m_is_ahead [p.d, q.d] S = .ok (.bl (aheadV p q)) S := ens_eq (by
  simp [m_is_ahead, b_is_ahead, startE, aheadV]
  by_cases h1 : p.x * q.w < q.x * p.w <;> by_cases h2 : p.x * q.w = q.x * p.w <;> simp [h1, h2])
theorem lahead_eq : m__law_is_ahead [p.d, q.d] S = .ok (.bl (aheadV p q)) S := ens_eq (by
  simp [m__law_is_ahead, b__law_is_ahead, startE, aheadV]
  by_cases h1 : p.x * q.w < q.x * p.w <;> by_cases h2 : p.x * q.w = q.x * p.w <;> simp [h1, h2])
def sgn (i : Int) : Int := b2i (decide (0 < i)) - b2i (decide (i < 0))
theorem sign_eq {i : Int} : m_sign [.int i] S = .ok (.int (sgn i)) S := ens_eq (by
  simp [m_sign, b_sign, startE, sgn])
theorem turn_eq : m_turn_of [p.d, q.d, r.d] S = .ok (.int (sgn (det p q r))) S := ens_eq (by
  have c : ∀ S, m_cross [q.d, r.d] S = .ok (.tup [.int (q.y * r.w - q.w * r.y), .int (q.w * r.x - q.x * r.w), .int (q.x * r.y - q.y * r.x)]) S := fun S => ens_eq (by
    simp [m_cross, b_cross, startE])
  have d : ∀ S, m_dot [p.d, .tup [.int (q.y * r.w - q.w * r.y), .int (q.w * r.x - q.x * r.w), .int (q.x * r.y - q.y * r.x)]] S = .ok (.int (det p q r)) S := fun S => ens_eq (by
    simp [m_dot, b_dot, startE, det])
  simp [m_turn_of, b_turn_of, startE, Ens_is (c _), Ens_is (d _), Ens_is sign_eq])
/-- the first and the last one of two -/
def lo2 (p q : V3) : V3 := if aheadV q p = true then q else p
def hi2 (p q : V3) : V3 := if aheadV q p = true then p else q
theorem ens_gcF {r : R D} {P : D → Sto → Prop} (h : Ens r fun d S' => ∃ n l, d = .loc n ∧ S'[n]? = some (.lst l) ∧ S.length ≤ n ∧ gcOk S S' ∧ D.los S.length l ∧ P (.lst l) (S'.take S.length)) : Ens (gcF S r) P := by
  cases r with
  | ok d S' =>
    obtain ⟨n, l, h1, h2, h3, h4, h5, h6⟩ := h
    subst h1
    unfold gcF
    simp only [h2]
    rw [if_pos ⟨h3, h4, h5⟩]
    exact h6
  | exc C fs S' => exact h.elim
  | bad => exact h.elim
theorem ins_end {l : List D} {d : D} {i : Int} (h : l.length < 16777216) (h0 : 0 ≤ i) (h1 : i < 2 ^ 63) : insD (S ++ [.lst l]) (.loc S.length) [.int i, d] = some (.non, S ++ [.lst (l.take i.toNat ++ [d] ++ l.drop i.toNat)]) := by
  have e : (S ++ [O.lst l])[S.length]? = some (.lst l) := by simp
  have e2 : ∀ x, (S ++ [O.lst l]).set S.length (.lst x) = S ++ [.lst x] := fun x => by simp
  unfold insD
  simp only [e]
  rw [if_pos ⟨h, h0, h1⟩, e2]
theorem seq_end {l : List D} : seqD (S ++ [.lst l]) (.loc S.length) = some l := by
  have e : (S ++ [O.lst l])[S.length]? = some (.lst l) := by simp
  simp [seqD, der, e]
theorem sorted_eq : m_sorted_spots [.tup [p.d, q.d]] S = .ok (.lst [(lo2 p q).d, (hi2 p q).d]) S := ens_eq (by
  unfold m_sorted_spots
  refine ens_gcF ?_
  simp [b_sorted_spots, startE, EnsS_for_cons, EnsS_for_nil, wipeE, seq_end, Ens_lc_cons, Ens_lc_nil, isT_end, ins_end]
  rw [Ens_is ahead_eq]
  have lo : ∀ v : V3, D.lo S.length v.d := fun v => ⟨trivial, trivial, trivial, trivial⟩
  cases h : aheadV q p with
  | false =>
    simp [seq_end, isT_end, ins_end, lo2, hi2, h]
    exact ⟨gc_app, lo p, lo q, trivial⟩
  | true =>
    simp [seq_end, isT_end, ins_end, lo2, hi2, h]
    exact ⟨gc_app, lo q, lo p, trivial⟩)
instance [hp : V3.Ok p] [hq : V3.Ok q] : V3.Ok (lo2 p q) := by
  unfold lo2
  split
  · exact hq
  · exact hp
instance [hp : V3.Ok p] [hq : V3.Ok q] : V3.Ok (hi2 p q) := by
  unfold hi2
  split
  · exact hp
  · exact hq
def eqV (p q : V3) : Bool := decide (p.x = q.x ∧ p.y = q.y ∧ p.w = q.w)
/-- the later one of two first ones, the earlier one of two last ones -/
def up2 (p q : V3) : V3 := if aheadV p q = true then q else p
def dn2 (p q : V3) : V3 := if aheadV q p = true then q else p
instance [hp : V3.Ok p] [hq : V3.Ok q] : V3.Ok (up2 p q) := by
  unfold up2
  split
  · exact hq
  · exact hp
instance [hp : V3.Ok p] [hq : V3.Ok q] : V3.Ok (dn2 p q) := by
  unfold dn2
  split
  · exact hq
  · exact hp
def endD (f l : V3) : D := if aheadV l f = true then .non else if eqV f l = true then .tup [.str "at", f.d] else .tup [.str "along", f.d, l.d]
def strD (p q r s : V3) : D := endD (up2 (lo2 p q) (lo2 r s)) (dn2 (hi2 p q) (hi2 r s))
theorem stretch_eq : m_common_stretch [p.d, q.d, r.d, s.d] S = .ok (strD p q r s) S := ens_eq (by
  have key : ∀ (a b c d : V3) [V3.Ok a] [V3.Ok b] [V3.Ok c] [V3.Ok d], up2 a c = up2 a c := fun _ _ _ _ _ _ _ _ => rfl
  simp [m_common_stretch, b_common_stretch, startE, Ens_is sorted_eq, Ens_is ahead_eq, -Ens_mIf]
  generalize ha : lo2 p q = a
  generalize hb : hi2 p q = b
  generalize hc : lo2 r s = c
  generalize hd : hi2 r s = d
  have oa : V3.Ok a := by rw [← ha]; infer_instance
  have ob : V3.Ok b := by rw [← hb]; infer_instance
  have oc : V3.Ok c := by rw [← hc]; infer_instance
  have od : V3.Ok d := by rw [← hd]; infer_instance
  refine Ens.mono (P := fun x S' => x = (up2 a c).d ∧ S' = S) ?_ ?_
  · simp [Ens_is ahead_eq, up2]
    cases aheadV a c <;> simp
  rintro _ S1 ⟨e1, e2⟩
  subst e1 e2
  refine Ens.mono (P := fun x S' => x = (dn2 b d).d ∧ S' = S1) ?_ ?_
  · simp [Ens_is ahead_eq, dn2]
    cases aheadV d b <;> simp
  rintro _ S2 ⟨e1, e2⟩
  subst e1 e2
  simp [Ens_is ahead_eq, strD, ha, hb, hc, hd, endD]
  cases h1 : aheadV (dn2 b d) (up2 a c) with
  | true => simp
  | false =>
    cases h2 : eqV (up2 a c) (dn2 b d) with
    | true =>
      have h3 := of_decide_eq_true h2
      simp [h3]
    | false =>
      have h3 := of_decide_eq_false h2
      simp at h3
      simp
      intro z1 z2 z3
      exact (h3 z1 z2 z3).elim)
end
end K02

namespace K02
open PySem PySem.Spec PyProof.Rows L2 Mi
variable {S T : Sto} {N : Nat}
def sp3 (x y w : Int) : D := if w < 0 then spD3 (-x) (-y) (-w) else spD3 x y w
theorem g3_neg {x y w : Int} : g3 (-x) (-y) (-w) = g3 x y w := by
  unfold g3 g2
  simp
theorem low3w_eq {x y w : Int} {m : Nat} [b : Bd w m] (hm : m ≤ 8000) (h : w ≠ 0) : m_lowest_spot [.int x, .int y, .int w] S = .ok (sp3 x y w) S := by
  unfold sp3
  by_cases hw : w < 0
  · rw [if_pos hw]
    refine ens_eq ?_
    have hg := g3_pos (x := -x) (y := -y) (w := -w) (by omega)
    rw [g3_neg] at hg
    have hg' : g2 (g2 x y) w ≠ 0 := by unfold g3 at hg; omega
    have b0 : Bd (-w) m := inferInstance
    have b1 : Bd (g2 (g2 x y) w) m := by
      have h1 : g2 (g2 x y) w = g2 (g2 x y) (-w) := by unfold g2; simp
      rw [h1]
      exact bd_g2 (by omega)
    have hq : 0 ≤ g2 (g2 x y) w := g2_nonneg _ _
    have fd : ∀ a : Int, a.fdiv (-g2 (g2 x y) w) = (-a) / g3 (-x) (-y) (-w) := fun a => by
      rw [g3_neg]
      have e : a.fdiv (-g2 (g2 x y) w) = (-(-a)).fdiv (-g2 (g2 x y) w) := by rw [Int.neg_neg]
      rw [e, Int.neg_fdiv_neg, Int.fdiv_eq_ediv_of_nonneg _ hq]
      rfl
    simp [m_lowest_spot, b_lowest_spot, startE, Ens_is cp_eq, hw, fdivD_int, hm, hg', spD3, fd]
  · rw [if_neg hw]
    exact low3_eq hm (by omega)
theorem sgn_zero {i : Int} : sgn i = 0 ↔ i = 0 := by
  unfold sgn b2i
  rcases Int.lt_trichotomy i 0 with h | h | h
  · simp [h, show ¬ 0 < i by omega, show i ≠ 0 by omega]
  · subst h; simp
  · simp [h, show ¬ i < 0 by omega, show i ≠ 0 by omega]
theorem sgn_cases {i : Int} : (0 < i ∧ sgn i = 1) ∨ (i = 0 ∧ sgn i = 0) ∨ (i < 0 ∧ sgn i = -1) := by
  unfold sgn b2i
  rcases Int.lt_trichotomy i 0 with h | h | h
  · exact .inr (.inr ⟨h, by simp [h, show ¬ 0 < i by omega]⟩)
  · subst h; exact .inr (.inl ⟨rfl, by simp⟩)
  · exact .inl ⟨h, by simp [h, show ¬ i < 0 by omega]⟩
theorem sgn_mul {i j : Int} : 0 < sgn i * sgn j ↔ 0 < i * j := by
  rcases sgn_cases (i := i) with ⟨h1, e1⟩ | ⟨h1, e1⟩ | ⟨h1, e1⟩ <;> rcases sgn_cases (i := j) with ⟨h2, e2⟩ | ⟨h2, e2⟩ | ⟨h2, e2⟩ <;> rw [e1, e2]
  · simp [Int.mul_pos h1 h2]
  · subst h2; simp
  · have := Int.mul_neg_of_pos_of_neg h1 h2
    simp; omega
  · subst h1; simp
  · subst h1; simp
  · subst h1; simp
  · have := Int.mul_neg_of_neg_of_pos h1 h2
    simp; omega
  · subst h2; simp
  · simp [Int.mul_pos_of_neg_of_neg h1 h2]
def cr (p q : V3) : V3 := ⟨p.y * q.w - p.w * q.y, p.w * q.x - p.x * q.w, p.x * q.y - p.y * q.x⟩
def xs (p q r s : V3) : V3 := cr (cr p q) (cr r s)
theorem xs_eq {p q r s : V3} : xs p q r s = ⟨det r s p * q.x - det r s q * p.x, det r s p * q.y - det r s q * p.y, det r s p * q.w - det r s q * p.w⟩ := by
  unfold xs cr det
  congr 1 <;> grind
theorem xsw_eq {p q r s : V3} : (xs p q r s).w = r.w * det p q s - s.w * det p q r := by
  unfold xs cr det
  grind
def meetV (p q r s : V3) : D := if det p q r = 0 ∧ det p q s = 0 then strD p q r s else if 0 < det p q r * det p q s ∨ 0 < det r s p * det r s q then .non else .tup [.str "at", sp3 (xs p q r s).x (xs p q r s).y (xs p q r s).w]
section
variable {p q r s : V3} [op : V3.Ok p] [oq : V3.Ok q] [or_ : V3.Ok r] [os : V3.Ok s]
theorem xsw_ne (h1 : ¬ (det p q r = 0 ∧ det p q s = 0)) (h2 : ¬ 0 < det p q r * det p q s) : (xs p q r s).w ≠ 0 := by
  intro h
  rw [xsw_eq] at h
  have hr := V3.Ok.pos r
  have hs := V3.Ok.pos s
  generalize det p q r = a at *
  generalize det p q s = b at *
  generalize r.w = rw_ at *
  generalize s.w = sw at *
  have e : rw_ * b = sw * a := by omega
  by_cases ha : a = 0
  · subst ha
    have : rw_ * b = 0 := by rw [e]; simp
    rcases Int.mul_eq_zero.mp this with z | z
    · omega
    · exact h1 ⟨rfl, z⟩
  · have e2 : rw_ * (a * b) = sw * (a * a) := by grind
    have h3 : 0 < a * a := by
      rcases Int.lt_trichotomy a 0 with z | z | z
      · exact Int.mul_pos_of_neg_of_neg z z
      · exact absurd z ha
      · exact Int.mul_pos z z
    have h4 := Int.mul_pos hs h3
    have h5 : ¬ 0 < rw_ * (a * b) := by
      have : rw_ * (a * b) ≤ 0 := Int.mul_nonpos_of_nonneg_of_nonpos (by omega) (by omega)
      omega
    omega
theorem bd_cr {p q : V3} {i : Nat} [Bd p.x i] [Bd p.y i] [Bd p.w i] [Bd q.x i] [Bd q.y i] [Bd q.w i] : Bd (cr p q).x (i + i + (i + i) + 1) ∧ Bd (cr p q).y (i + i + (i + i) + 1) ∧ Bd (cr p q).w (i + i + (i + i) + 1) :=
  ⟨inferInstanceAs (Bd (p.y * q.w - p.w * q.y) _), inferInstanceAs (Bd (p.w * q.x - p.x * q.w) _), inferInstanceAs (Bd (p.x * q.y - p.y * q.x) _)⟩
theorem cross_eq {p q : V3} {i : Nat} [Bd p.x i] [Bd p.y i] [Bd p.w i] [Bd q.x i] [Bd q.y i] [Bd q.w i] (hi : i ≤ 60000) : m_cross [p.d, q.d] S = .ok (cr p q).d S := ens_eq (by
  simp [m_cross, b_cross, startE, cr, hi])
theorem meetof_eq : m_meeting_of [p.d, q.d, r.d, s.d] S = .ok (meetV p q r s) S := ens_eq (by
  obtain ⟨c1, c2, c3⟩ := bd_cr (p := p) (q := q) (i := 50)
  obtain ⟨d1, d2, d3⟩ := bd_cr (p := r) (q := s) (i := 50)
  obtain ⟨e1, e2, e3⟩ := bd_cr (p := cr p q) (q := cr r s) (i := 50 + 50 + (50 + 50) + 1)
  have sb : ∀ i : Int, Bd (sgn i) 64 := fun i => by
    rcases sgn_cases (i := i) with ⟨_, e⟩ | ⟨_, e⟩ | ⟨_, e⟩ <;> rw [e] <;> exact bd_lt (by decide) (by decide)
  have k1 := fun S => cross_eq (S := S) (p := p) (q := q) (i := 50) (by decide)
  have k2 := fun S => cross_eq (S := S) (p := r) (q := s) (i := 50) (by decide)
  have k3 := fun S => cross_eq (S := S) (p := cr p q) (q := cr r s) (i := 50 + 50 + (50 + 50) + 1) (by decide)
  simp [m_meeting_of, b_meeting_of, startE, Ens_is turn_eq, sgn_zero, Ens_is stretch_eq, sgn_mul, Ens_is (k1 _), Ens_is (k2 _), Ens_is (k3 _)]
  have hx : cr (cr p q) (cr r s) = xs p q r s := rfl
  rw [hx] at e1 e2 e3 ⊢
  unfold meetV
  by_cases h0 : det p q r = 0 ∧ det p q s = 0
  · simp [h0.1, h0.2]
  · rw [if_neg h0]
    by_cases h1 : 0 < det p q r * det p q s
    · simp [h1, show ¬ det p q r * det p q s ≤ 0 by omega]
      exact fun a b => (h0 ⟨a, b⟩).elim
    · by_cases h2 : 0 < det r s p * det r s q
      · simp [h1, h2, show ¬ det r s p * det r s q ≤ 0 by omega]
        exact fun a b => (h0 ⟨a, b⟩).elim
      · have hw := xsw_ne h0 h1
        have h3 : ∀ S, m_lowest_spot [.int (xs p q r s).x, .int (xs p q r s).y, .int (xs p q r s).w] S = .ok (sp3 (xs p q r s).x (xs p q r s).y (xs p q r s).w) S := fun S => low3w_eq (m := 50 + 50 + (50 + 50) + 1 + (50 + 50 + (50 + 50) + 1) + (50 + 50 + (50 + 50) + 1 + (50 + 50 + (50 + 50) + 1)) + 1) (by decide) hw
        simp [h1, h2, Ens_is (h3 _), show det p q r * det p q s ≤ 0 by omega, show det r s p * det r s q ≤ 0 by omega]
        exact fun a b => (h0 ⟨a, b⟩).elim)
theorem meeting_eq (h1 : eqV p q = false) (h2 : eqV r s = false) : m_meeting [p.d, q.d, r.d, s.d] S = .ok (meetV p q r s) S := ens_eq (by
  have e1 := of_decide_eq_false h1
  have e2 := of_decide_eq_false h2
  have n1 : p.x = q.x → p.y = q.y → p.w = q.w → False := fun a b c => e1 ⟨a, b, c⟩
  have n2 : r.x = s.x → r.y = s.y → r.w = s.w → False := fun a b c => e2 ⟨a, b, c⟩
  simp [m_meeting, b_meeting, startE, Ens_is need4_eq, EnsS_for_cons, EnsS_for_nil, Ens_is meetof_eq]
  exact ⟨n1, fun _ => n2⟩)
end
end K02

namespace K02
open PySem PySem.Spec PyProof.Rows L2 Mi
variable {S T : Sto} {N : Nat}
section
variable {p q r s : V3} [op : V3.Ok p] [oq : V3.Ok q] [or_ : V3.Ok r] [os : V3.Ok s]
/-- the law's way along a collinear pair -/
def lup (a b : V3) : V3 := if aheadV a b = true then b else a
def ldn (a b : V3) : V3 := if aheadV a b = true then a else b
def lstr (p q r s : V3) : D := endD (lup (lo2 p q) (lo2 r s)) (ldn (hi2 p q) (hi2 r s))
def lawM (p q r s : V3) (wh on ot x0 x1 y0 y1 W : Int) : D :=
  if wh = 0 then (if on = 0 then lstr p q r s else .non)
  else if wh < 0 then (if (0 ≤ -on ∧ -on ≤ -wh) ∧ (0 ≤ -ot ∧ -ot ≤ -wh) then .tup [.str "at", spD3 (x0 * -wh + -on * x1) (y0 * -wh + -on * y1) (W * -wh)] else .non)
  else (if (0 ≤ on ∧ on ≤ wh) ∧ (0 ≤ ot ∧ ot ≤ wh) then .tup [.str "at", spD3 (x0 * wh + on * x1) (y0 * wh + on * y1) (W * wh)] else .non)
theorem lmeet_eq {A B C E W a0 a1 b0 b1 c0 c1 d0 d1 u0 u1 v0 v1 f0 f1 wh on ot : Int}
    (hW : W = p.w * q.w * r.w * s.w) (hA : A = q.w * r.w * s.w) (hB : B = p.w * r.w * s.w) (hC : C = p.w * q.w * s.w) (hE : E = p.w * q.w * r.w)
    (ha0 : a0 = p.x * A) (ha1 : a1 = p.y * A) (hb0 : b0 = q.x * B) (hb1 : b1 = q.y * B) (hc0 : c0 = r.x * C) (hc1 : c1 = r.y * C) (hd0 : d0 = s.x * E) (hd1 : d1 = s.y * E)
    (hu0 : u0 = b0 - a0) (hu1 : u1 = b1 - a1) (hv0 : v0 = d0 - c0) (hv1 : v1 = d1 - c1) (hf0 : f0 = c0 - a0) (hf1 : f1 = c1 - a1)
    (hwh : wh = u0 * v1 - u1 * v0) (hon : on = f0 * v1 - f1 * v0) (hot : ot = f0 * u1 - f1 * u0) :
    m__law_meeting [p.d, q.d, r.d, s.d] S = .ok (lawM p q r s wh on ot a0 u0 a1 u1 W) S := ens_eq (by
  have hp := V3.Ok.pos p
  have hq := V3.Ok.pos q
  have hr := V3.Ok.pos r
  have hs := V3.Ok.pos s
  have fA : W.fdiv p.w = A := by
    rw [hW, hA, show p.w * q.w * r.w * s.w = (q.w * r.w * s.w) * p.w by grind]
    exact Int.mul_fdiv_cancel _ (by omega)
  have fB : W.fdiv q.w = B := by
    rw [hW, hB, show p.w * q.w * r.w * s.w = (p.w * r.w * s.w) * q.w by grind]
    exact Int.mul_fdiv_cancel _ (by omega)
  have fC : W.fdiv r.w = C := by
    rw [hW, hC, show p.w * q.w * r.w * s.w = (p.w * q.w * s.w) * r.w by grind]
    exact Int.mul_fdiv_cancel _ (by omega)
  have fE : W.fdiv s.w = E := by
    rw [hW, hE]
    exact Int.mul_fdiv_cancel _ (by omega)
  have bA : Bd A 150 := by rw [hA]; exact Bd.up inferInstance (by decide)
  have bB : Bd B 150 := by rw [hB]; exact Bd.up inferInstance (by decide)
  have bC : Bd C 150 := by rw [hC]; exact Bd.up inferInstance (by decide)
  have bE : Bd E 150 := by rw [hE]; exact Bd.up inferInstance (by decide)
  have bW : Bd W 200 := by rw [hW]; exact Bd.up inferInstance (by decide)
  have ba0 : Bd a0 200 := by rw [ha0]; exact Bd.up inferInstance (by decide)
  have ba1 : Bd a1 200 := by rw [ha1]; exact Bd.up inferInstance (by decide)
  have bb0 : Bd b0 200 := by rw [hb0]; exact Bd.up inferInstance (by decide)
  have bb1 : Bd b1 200 := by rw [hb1]; exact Bd.up inferInstance (by decide)
  have bc0 : Bd c0 200 := by rw [hc0]; exact Bd.up inferInstance (by decide)
  have bc1 : Bd c1 200 := by rw [hc1]; exact Bd.up inferInstance (by decide)
  have bd0 : Bd d0 200 := by rw [hd0]; exact Bd.up inferInstance (by decide)
  have bd1 : Bd d1 200 := by rw [hd1]; exact Bd.up inferInstance (by decide)
  have bu0 : Bd u0 500 := by rw [hu0]; exact Bd.up inferInstance (by decide)
  have bu1 : Bd u1 500 := by rw [hu1]; exact Bd.up inferInstance (by decide)
  have bv0 : Bd v0 500 := by rw [hv0]; exact Bd.up inferInstance (by decide)
  have bv1 : Bd v1 500 := by rw [hv1]; exact Bd.up inferInstance (by decide)
  have bf0 : Bd f0 500 := by rw [hf0]; exact Bd.up inferInstance (by decide)
  have bf1 : Bd f1 500 := by rw [hf1]; exact Bd.up inferInstance (by decide)
  have bwh : Bd wh 3000 := by rw [hwh]; exact Bd.up inferInstance (by decide)
  have bon : Bd on 3000 := by rw [hon]; exact Bd.up inferInstance (by decide)
  have bot : Bd ot 3000 := by rw [hot]; exact Bd.up inferInstance (by decide)
  have hWp : 0 < W := by rw [hW]; exact Int.mul_pos (Int.mul_pos (Int.mul_pos hp hq) hr) hs
  simp (config := { maxSteps := 2000000 }) [m__law_meeting, b__law_meeting, startE, wipeE, Ens_lc_cons, Ens_lc_nil, fdivD_int, show p.w ≠ 0 by omega, show q.w ≠ 0 by omega, show r.w ≠ 0 by omega, show s.w ≠ 0 by omega, fA, fB, fC, fE,
    ← ha0, ← ha1, ← hb0, ← hb1, ← hc0, ← hc1, ← hd0, ← hd1, ← hu0, ← hu1, ← hv0, ← hv1, ← hf0, ← hf1, ← hwh, ← hon, ← hot, ← hW, -Ens_mIf]
  refine ⟨fun hw => ⟨fun hneg => ?_, fun hpos => ?_⟩, fun hw => ⟨fun ho => ?_, fun ho => ?_⟩⟩
  · have hWw : 0 < W * -wh := Int.mul_pos hWp (by omega)
    have no : ¬ ((0 ≤ -on ∧ -on ≤ -wh) ∧ (0 ≤ -ot ∧ -ot ≤ -wh)) → D.non = lawM p q r s wh on ot a0 u0 a1 u1 W := fun h => by
      unfold lawM
      rw [if_neg hw, if_pos hneg, if_neg h]
    refine ⟨fun h1 => ⟨fun h2 => no (by omega), fun h2 => ⟨fun h3 => ⟨fun h4 => no (by omega), fun h4 => ?_⟩, fun h3 => no (by omega)⟩⟩, fun h1 => no (by omega)⟩
    rw [Ens_is (lspot_eq (m := 200 + 3000) (by decide) hWw)]
    unfold lawM
    rw [if_neg hw, if_pos hneg, if_pos (by omega)]
    exact ⟨rfl, rfl⟩
  · have hWw : 0 < W * wh := Int.mul_pos hWp (by omega)
    have no : ¬ ((0 ≤ on ∧ on ≤ wh) ∧ (0 ≤ ot ∧ ot ≤ wh)) → D.non = lawM p q r s wh on ot a0 u0 a1 u1 W := fun h => by
      unfold lawM
      rw [if_neg hw, if_neg (by omega), if_neg h]
    refine ⟨fun h1 => ⟨fun h2 => no (by omega), fun h2 => ⟨fun h3 => ⟨fun h4 => no (by omega), fun h4 => ?_⟩, fun h3 => no (by omega)⟩⟩, fun h1 => no (by omega)⟩
    rw [Ens_is (lspot_eq (m := 200 + 3000) (by decide) hWw)]
    unfold lawM
    rw [if_neg hw, if_neg (by omega), if_pos (by omega)]
    exact ⟨rfl, rfl⟩
  · unfold lawM
    rw [if_pos hw, if_neg ho]
  · have e : lawM p q r s wh on ot a0 u0 a1 u1 W = lstr p q r s := by
      unfold lawM
      rw [if_pos hw, if_pos ho]
    rw [e]
    refine Ens.mono (P := fun x S' => x = .tup [(lo2 p q).d, (hi2 p q).d] ∧ S' = S) ?_ ?_
    · simp [Ens_is lahead_eq, lo2, hi2]
      cases aheadV q p <;> simp
    rintro _ S1 ⟨e1, e2⟩
    subst e1 e2
    refine Ens.mono (P := fun x S' => x = .tup [(lo2 r s).d, (hi2 r s).d] ∧ S' = S1) ?_ ?_
    · simp [Ens_is lahead_eq, lo2, hi2]
      cases aheadV s r <;> simp
    rintro _ S2 ⟨e1, e2⟩
    subst e1 e2
    unfold lstr
    generalize ha : lo2 p q = a
    generalize hb : hi2 p q = b
    generalize hc : lo2 r s = c
    generalize hd : hi2 r s = d
    have oa : V3.Ok a := by rw [← ha]; infer_instance
    have ob : V3.Ok b := by rw [← hb]; infer_instance
    have oc : V3.Ok c := by rw [← hc]; infer_instance
    have od : V3.Ok d := by rw [← hd]; infer_instance
    refine Ens.mono (P := fun x S' => x = (lup a c).d ∧ S' = S2) ?_ ?_
    · simp [Ens_is lahead_eq, lup]
      cases aheadV a c <;> simp
    rintro _ S1 ⟨e1, e2⟩
    subst e1 e2
    refine Ens.mono (P := fun x S' => x = (ldn b d).d ∧ S' = S1) ?_ ?_
    · simp [Ens_is lahead_eq, ldn]
      cases aheadV b d <;> simp
    rintro _ S2 ⟨e1, e2⟩
    subst e1 e2
    have of_ : V3.Ok (lup a c) := by
      unfold lup
      split
      · exact oc
      · exact oa
    have ol : V3.Ok (ldn b d) := by
      unfold ldn
      split
      · exact ob
      · exact od
    simp [Ens_is lahead_eq, endD]
    cases h1 : aheadV (ldn b d) (lup a c) with
    | true => simp
    | false =>
      cases h2 : eqV (lup a c) (ldn b d) with
      | true =>
        have h3 := of_decide_eq_true h2
        simp [h3]
      | false =>
        have h3 := of_decide_eq_false h2
        simp at h3
        simp
        intro z1 z2 z3
        exact (h3 z1 z2 z3).elim)
end
end K02

namespace K02
open PySem PySem.Spec PyProof.Rows L2 Mi
/-! ### ahead: one of two different spots -/
theorem ahead_tri (p q : V3) [op : V3.Ok p] [oq : V3.Ok q] : (aheadV p q = true ∧ aheadV q p = false) ∨ (aheadV p q = false ∧ aheadV q p = true) ∨ (aheadV p q = false ∧ aheadV q p = false ∧ p = q) := by
  have hp := V3.Ok.pos p
  have hq := V3.Ok.pos q
  unfold aheadV
  rcases Int.lt_trichotomy (p.x * q.w) (q.x * p.w) with h | h | h
  · left
    simp [h, show ¬ q.x * p.w < p.x * q.w by omega, show ¬ q.x * p.w = p.x * q.w by omega]
  · rcases Int.lt_trichotomy (p.y * q.w) (q.y * p.w) with k | k | k
    · left
      simp [h, k, show ¬ q.y * p.w < p.y * q.w by omega]
    · right; right
      refine ⟨by simp [h, k], by simp [h, k], ?_⟩
      have e : spD3 p.x p.y p.w = spD3 q.x q.y q.w := spD3_eq hp hq h k
      rw [spD3_low op.g, spD3_low oq.g] at e
      have e' : p.x = q.x ∧ p.y = q.y ∧ p.w = q.w := by simpa using e
      obtain ⟨px, py, pw⟩ := p
      obtain ⟨qx, qy, qw⟩ := q
      obtain ⟨e1, e2, e3⟩ := e'
      simp only at e1 e2 e3
      subst e1 e2 e3
      rfl
    · right; left
      simp [h, k, show ¬ p.y * q.w < q.y * p.w by omega]
  · right; left
    simp [h, show ¬ p.x * q.w < q.x * p.w by omega, show ¬ p.x * q.w = q.x * p.w by omega]
section
variable {p q r s : V3} [op : V3.Ok p] [oq : V3.Ok q] [or_ : V3.Ok r] [os : V3.Ok s]
theorem lo2_comm : lo2 q p = lo2 p q := by
  unfold lo2
  rcases ahead_tri p q with ⟨h1, h2⟩ | ⟨h1, h2⟩ | ⟨h1, h2, h3⟩
  · simp [h1, h2]
  · simp [h1, h2]
  · simp [h1, h2, h3]
theorem hi2_comm : hi2 q p = hi2 p q := by
  unfold hi2
  rcases ahead_tri p q with ⟨h1, h2⟩ | ⟨h1, h2⟩ | ⟨h1, h2, h3⟩
  · simp [h1, h2]
  · simp [h1, h2]
  · simp [h1, h2, h3]
theorem up2_comm : up2 q p = up2 p q := by
  unfold up2
  rcases ahead_tri p q with ⟨h1, h2⟩ | ⟨h1, h2⟩ | ⟨h1, h2, h3⟩
  · simp [h1, h2]
  · simp [h1, h2]
  · simp [h1, h2, h3]
theorem dn2_comm : dn2 q p = dn2 p q := by
  unfold dn2
  rcases ahead_tri p q with ⟨h1, h2⟩ | ⟨h1, h2⟩ | ⟨h1, h2, h3⟩
  · simp [h1, h2]
  · simp [h1, h2]
  · simp [h1, h2, h3]
theorem ldn_eq : ldn p q = dn2 p q := by
  unfold ldn dn2
  rcases ahead_tri p q with ⟨h1, h2⟩ | ⟨h1, h2⟩ | ⟨h1, h2, h3⟩
  · simp [h1, h2]
  · simp [h1, h2]
  · simp [h1, h2, h3]
theorem lstr_eq : lstr p q r s = strD p q r s := by
  unfold lstr strD
  rw [ldn_eq]
  rfl
theorem strD_swap : strD q p r s = strD p q r s := by
  unfold strD
  rw [lo2_comm, hi2_comm]
theorem strD_pair : strD r s p q = strD p q r s := by
  unfold strD
  rw [up2_comm, dn2_comm]
end
/-! ### signs -/
theorem sg_pos {a b x y : Int} (hx : 0 < x) (hy : 0 < y) (h : 0 < x * a - y * b) : (0 ≤ a ∧ b ≤ 0) ↔ ¬ 0 < a * b := by
  constructor
  · intro ⟨h1, h2⟩ h3
    have := Int.mul_nonpos_of_nonneg_of_nonpos h1 h2
    omega
  · intro h1
    refine ⟨?_, ?_⟩
    · by_cases ha : 0 ≤ a
      · exact ha
      · exfalso
        have hb : 0 ≤ b := by
          by_cases hb : 0 ≤ b
          · exact hb
          · exact absurd (Int.mul_pos_of_neg_of_neg (show a < 0 by omega) (show b < 0 by omega)) h1
        have h2 := Int.mul_neg_of_pos_of_neg hx (show a < 0 by omega)
        have h3 := Int.mul_nonneg (Int.le_of_lt hy) hb
        omega
    · by_cases hb : b ≤ 0
      · exact hb
      · exfalso
        have ha : a ≤ 0 := by
          by_cases ha : a ≤ 0
          · exact ha
          · exact absurd (Int.mul_pos (show 0 < a by omega) (show 0 < b by omega)) h1
        have h2 := Int.mul_pos hy (show 0 < b by omega)
        have h3 := Int.mul_nonpos_of_nonneg_of_nonpos (Int.le_of_lt hx) ha
        omega
theorem sg_neg {a b x y : Int} (hx : 0 < x) (hy : 0 < y) (h : x * a - y * b < 0) : (a ≤ 0 ∧ 0 ≤ b) ↔ ¬ 0 < a * b := by
  have h1 := sg_pos (a := -a) (b := -b) hx hy (by
    have e1 : x * -a = -(x * a) := by grind
    have e2 : y * -b = -(y * b) := by grind
    omega)
  have e : -a * -b = a * b := by grind
  rw [e] at h1
  constructor
  · intro h2; exact h1.mp ⟨by omega, by omega⟩
  · intro h2
    have := h1.mpr h2
    omega
theorem mul_nn {x a : Int} (hx : 0 < x) : 0 ≤ x * a ↔ 0 ≤ a := by
  constructor
  · intro h
    by_cases ha : 0 ≤ a
    · exact ha
    · have := Int.mul_neg_of_pos_of_neg hx (show a < 0 by omega)
      omega
  · exact fun h => Int.mul_nonneg (Int.le_of_lt hx) h
section
variable {p q r s : V3} [op : V3.Ok p] [oq : V3.Ok q] [or_ : V3.Ok r] [os : V3.Ok s]
def dX (p q : V3) : Int := q.x * p.w - p.x * q.w
def dY (p q : V3) : Int := q.y * p.w - p.y * q.w
theorem id_fv : dX p r * dY r s - dY p r * dX r s = r.w * det r s p := by
  unfold dX dY det
  grind
theorem id_fu : dX p r * dY p q - dY p r * dX p q = -(p.w * det p q r) := by
  unfold dX dY det
  grind
theorem id_uv : dX p q * dY r s - dY p q * dX r s = (xs p q r s).w := by
  unfold dX dY xs cr
  grind
theorem id_w : (xs p q r s).w = q.w * det r s p - p.w * det r s q := by
  rw [xs_eq]
  simp only
  grind
theorem diff_ne (h : eqV p q = false) : dX p q ≠ 0 ∨ dY p q ≠ 0 := by
  have hp := V3.Ok.pos p
  have hq := V3.Ok.pos q
  by_cases h1 : dX p q = 0
  · by_cases h2 : dY p q = 0
    · exfalso
      have h' := of_decide_eq_false h
      unfold dX at h1
      unfold dY at h2
      have e : spD3 p.x p.y p.w = spD3 q.x q.y q.w := spD3_eq hp hq (by omega) (by omega)
      rw [spD3_low op.g, spD3_low oq.g] at e
      have e' : p.x = q.x ∧ p.y = q.y ∧ p.w = q.w := by simpa using e
      exact h' e'
    · exact .inr h2
  · exact .inl h1
/-- on parallel lines: the one of r on p q, or none -/
theorem par_zero (hpq : eqV p q = false) (hrs : eqV r s = false) (hw : (xs p q r s).w = 0) : det r s p = 0 ↔ det p q r = 0 := by
  have hp := V3.Ok.pos p
  have hr := V3.Ok.pos r
  have e1 : dX p q * (r.w * det r s p) = -(dX r s * (p.w * det p q r)) := by
    have a := id_fv (p := p) (r := r) (s := s)
    have b := id_fu (p := p) (q := q) (r := r)
    have c := id_uv (p := p) (q := q) (r := r) (s := s)
    rw [hw] at c
    grind
  have e2 : dY p q * (r.w * det r s p) = -(dY r s * (p.w * det p q r)) := by
    have a := id_fv (p := p) (r := r) (s := s)
    have b := id_fu (p := p) (q := q) (r := r)
    have c := id_uv (p := p) (q := q) (r := r) (s := s)
    rw [hw] at c
    grind
  constructor
  · intro h
    rw [h] at e1 e2
    simp only [Int.mul_zero] at e1 e2
    have z : p.w * det p q r = 0 := by
      rcases diff_ne hrs with k | k
      · rcases Int.mul_eq_zero.mp (show dX r s * (p.w * det p q r) = 0 by omega) with z | z
        · exact absurd z k
        · exact z
      · rcases Int.mul_eq_zero.mp (show dY r s * (p.w * det p q r) = 0 by omega) with z | z
        · exact absurd z k
        · exact z
    rcases Int.mul_eq_zero.mp z with z | z
    · omega
    · exact z
  · intro h
    rw [h] at e1 e2
    simp only [Int.mul_zero, Int.neg_zero] at e1 e2
    have z : r.w * det r s p = 0 := by
      rcases diff_ne hpq with k | k
      · rcases Int.mul_eq_zero.mp e1 with z | z
        · exact absurd z k
        · exact z
      · rcases Int.mul_eq_zero.mp e2 with z | z
        · exact absurd z k
        · exact z
    rcases Int.mul_eq_zero.mp z with z | z
    · omega
    · exact z
end
end K02

namespace K02
open PySem PySem.Spec PyProof.Rows L2 Mi
variable {S T : Sto} {N : Nat}
section
variable {p q r s : V3} [op : V3.Ok p] [oq : V3.Ok q] [or_ : V3.Ok r] [os : V3.Ok s]
theorem meetV_zero (hpq : eqV p q = false) (hrs : eqV r s = false) (hw : (xs p q r s).w = 0) : meetV p q r s = if det r s p = 0 then strD p q r s else .non := by
  have hr := V3.Ok.pos r
  have hs := V3.Ok.pos s
  have pz := par_zero hpq hrs hw
  rw [xsw_eq] at hw
  unfold meetV
  by_cases h1 : det p q r = 0
  · have h2 : det p q s = 0 := by
      rw [h1] at hw
      rcases Int.mul_eq_zero.mp (show r.w * det p q s = 0 by omega) with z | z
      · omega
      · exact z
    rw [if_pos ⟨h1, h2⟩, if_pos (pz.mpr h1)]
  · rw [if_neg (fun z => h1 z.1), if_neg (fun z => h1 (pz.mp z))]
    have h3 : 0 < det p q r * det p q s := by
      generalize det p q r = a at *
      generalize det p q s = b at *
      have e : r.w * (a * b) = s.w * (a * a) := by grind
      have h4 : 0 < a * a := by
        rcases Int.lt_trichotomy a 0 with z | z | z
        · exact Int.mul_pos_of_neg_of_neg z z
        · exact absurd z h1
        · exact Int.mul_pos z z
      have h5 := Int.mul_pos hs h4
      by_cases h6 : 0 < a * b
      · exact h6
      · have := Int.mul_nonpos_of_nonneg_of_nonpos (Int.le_of_lt hr) (show a * b ≤ 0 by omega)
        omega
    rw [if_pos (.inl h3)]
theorem meetV_ne (hw : (xs p q r s).w ≠ 0) : meetV p q r s = if 0 < det p q r * det p q s ∨ 0 < det r s p * det r s q then .non else .tup [.str "at", sp3 (xs p q r s).x (xs p q r s).y (xs p q r s).w] := by
  unfold meetV
  rw [if_neg]
  rintro ⟨h1, h2⟩
  rw [xsw_eq, h1, h2] at hw
  simp at hw
theorem lmeetV (hpq : eqV p q = false) (hrs : eqV r s = false) : m__law_meeting [p.d, q.d, r.d, s.d] S = .ok (meetV p q r s) S := by
  rw [lmeet_eq rfl rfl rfl rfl rfl rfl rfl rfl rfl rfl rfl rfl rfl rfl rfl rfl rfl rfl rfl rfl rfl rfl]
  congr 1
  have hp := V3.Ok.pos p
  have hq := V3.Ok.pos q
  have hr := V3.Ok.pos r
  have hs := V3.Ok.pos s
  generalize hA : q.w * r.w * s.w = A
  generalize hW : p.w * q.w * r.w * s.w = W
  have hWp : 0 < W := by rw [← hW]; exact Int.mul_pos (Int.mul_pos (Int.mul_pos hp hq) hr) hs
  have u0 : q.x * (p.w * r.w * s.w) - p.x * A = r.w * s.w * dX p q := by rw [← hA]; unfold dX; grind
  have u1 : q.y * (p.w * r.w * s.w) - p.y * A = r.w * s.w * dY p q := by rw [← hA]; unfold dY; grind
  have v0 : s.x * (p.w * q.w * r.w) - r.x * (p.w * q.w * s.w) = p.w * q.w * dX r s := by unfold dX; grind
  have v1 : s.y * (p.w * q.w * r.w) - r.y * (p.w * q.w * s.w) = p.w * q.w * dY r s := by unfold dY; grind
  have f0 : r.x * (p.w * q.w * s.w) - p.x * A = q.w * s.w * dX p r := by rw [← hA]; unfold dX; grind
  have f1 : r.y * (p.w * q.w * s.w) - p.y * A = q.w * s.w * dY p r := by rw [← hA]; unfold dY; grind
  rw [u0, u1, v0, v1, f0, f1]
  have i1 := id_fv (p := p) (r := r) (s := s)
  have i2 := id_fu (p := p) (q := q) (r := r)
  have i3 := id_uv (p := p) (q := q) (r := r) (s := s)
  have i4 := id_w (p := p) (q := q) (r := r) (s := s)
  have i5 := xsw_eq (p := p) (q := q) (r := r) (s := s)
  have ewh : r.w * s.w * dX p q * (p.w * q.w * dY r s) - r.w * s.w * dY p q * (p.w * q.w * dX r s) = W * (xs p q r s).w := by rw [← i3, ← hW]; grind
  have eon : q.w * s.w * dX p r * (p.w * q.w * dY r s) - q.w * s.w * dY p r * (p.w * q.w * dX r s) = W * (q.w * det r s p) := by
    have : q.w * s.w * dX p r * (p.w * q.w * dY r s) - q.w * s.w * dY p r * (p.w * q.w * dX r s) = p.w * q.w * s.w * q.w * (dX p r * dY r s - dY p r * dX r s) := by grind
    rw [this, i1, ← hW]; grind
  have eot : q.w * s.w * dX p r * (r.w * s.w * dY p q) - q.w * s.w * dY p r * (r.w * s.w * dX p q) = W * -(s.w * det p q r) := by
    have : q.w * s.w * dX p r * (r.w * s.w * dY p q) - q.w * s.w * dY p r * (r.w * s.w * dX p q) = q.w * r.w * s.w * s.w * (dX p r * dY p q - dY p r * dX p q) := by grind
    rw [this, i2, ← hW]; grind
  rw [ewh, eon, eot]
  have ex : ∀ h : Int, p.x * A * (W * (h * (xs p q r s).w)) + W * (h * (q.w * det r s p)) * (r.w * s.w * dX p q) = W * W * (h * (xs p q r s).x) := fun h => by
    have e : p.x * (xs p q r s).w + det r s p * dX p q = p.w * (xs p q r s).x := by
      rw [xs_eq]
      simp only
      unfold dX
      grind
    have e2 : p.x * A * (W * (h * (xs p q r s).w)) + W * (h * (q.w * det r s p)) * (r.w * s.w * dX p q) = W * h * A * (p.x * (xs p q r s).w + det r s p * dX p q) := by rw [← hA]; grind
    rw [e2, e, ← hA, ← hW]; grind
  have ey : ∀ h : Int, p.y * A * (W * (h * (xs p q r s).w)) + W * (h * (q.w * det r s p)) * (r.w * s.w * dY p q) = W * W * (h * (xs p q r s).y) := fun h => by
    have e : p.y * (xs p q r s).w + det r s p * dY p q = p.w * (xs p q r s).y := by
      rw [xs_eq]
      simp only
      unfold dY
      grind
    have e2 : p.y * A * (W * (h * (xs p q r s).w)) + W * (h * (q.w * det r s p)) * (r.w * s.w * dY p q) = W * h * A * (p.y * (xs p q r s).w + det r s p * dY p q) := by rw [← hA]; grind
    rw [e2, e, ← hA, ← hW]; grind
  have hWW : 0 < W * W := Int.mul_pos hWp hWp
  unfold lawM
  by_cases hw : (xs p q r s).w = 0
  · rw [if_pos (by rw [hw]; simp), meetV_zero hpq hrs hw, lstr_eq]
    by_cases h1 : det r s p = 0
    · rw [if_pos (by rw [h1]; simp), if_pos h1]
    · rw [if_neg, if_neg h1]
      intro z
      rcases Int.mul_eq_zero.mp z with z | z
      · omega
      · rcases Int.mul_eq_zero.mp z with z | z
        · omega
        · exact h1 z
  · have hwz : W * (xs p q r s).w ≠ 0 := fun z => by
      rcases Int.mul_eq_zero.mp z with z | z
      · omega
      · exact hw z
    rw [if_neg hwz, meetV_ne hw]
    by_cases hn : (xs p q r s).w < 0
    · rw [if_pos (Int.mul_neg_of_pos_of_neg hWp hn)]
      have k1 := sg_neg (a := det r s p) (b := det r s q) hq hp (by omega)
      have k2 := sg_neg (a := det p q s) (b := det p q r) hr hs (by omega)
      have c1 : (0 ≤ -(W * (q.w * det r s p)) ∧ -(W * (q.w * det r s p)) ≤ -(W * (xs p q r s).w)) ↔ (det r s p ≤ 0 ∧ 0 ≤ det r s q) := by
        have a1 := mul_nn (x := W * q.w) (a := -det r s p) (Int.mul_pos hWp hq)
        have a2 := mul_nn (x := W * p.w) (a := det r s q) (Int.mul_pos hWp hp)
        have b1 : W * q.w * -det r s p = -(W * (q.w * det r s p)) := by grind
        have b2 : W * p.w * det r s q = -(W * (xs p q r s).w) - -(W * (q.w * det r s p)) := by rw [i4]; grind
        omega
      have c2 : (0 ≤ -(W * -(s.w * det p q r)) ∧ -(W * -(s.w * det p q r)) ≤ -(W * (xs p q r s).w)) ↔ (det p q s ≤ 0 ∧ 0 ≤ det p q r) := by
        have a1 := mul_nn (x := W * s.w) (a := det p q r) (Int.mul_pos hWp hs)
        have a2 := mul_nn (x := W * r.w) (a := -det p q s) (Int.mul_pos hWp hr)
        have b1 : W * s.w * det p q r = -(W * -(s.w * det p q r)) := by grind
        have b2 : W * r.w * -det p q s = -(W * (xs p q r s).w) - -(W * -(s.w * det p q r)) := by rw [i5]; grind
        omega
      have cm : det p q s * det p q r = det p q r * det p q s := Int.mul_comm ..
      rw [cm] at k2
      by_cases hc : 0 < det p q r * det p q s ∨ 0 < det r s p * det r s q
      · rw [if_pos hc, if_neg]
        rintro ⟨z1, z2⟩
        rcases hc with z | z
        · exact k2.mp (c2.mp z2) z
        · exact k1.mp (c1.mp z1) z
      · rw [if_neg hc, if_pos ⟨c1.mpr (k1.mpr fun z => hc (.inr z)), c2.mpr (k2.mpr fun z => hc (.inl z))⟩]
        congr 3
        unfold sp3
        rw [if_pos hn]
        have n1 : ∀ x : Int, -(W * x) = W * (-1 * x) := fun x => by grind
        rw [n1, n1, ex, ey, show W * (W * (-1 * (xs p q r s).w)) = W * W * (-1 * (xs p q r s).w) by grind, spD3_scale hWW]
        congr 1 <;> grind
    · have hps : 0 < (xs p q r s).w := by omega
      rw [if_neg (by have := Int.mul_pos hWp hps; omega)]
      have k1 := sg_pos (a := det r s p) (b := det r s q) hq hp (by omega)
      have k2 := sg_pos (a := det p q s) (b := det p q r) hr hs (by omega)
      have c1 : (0 ≤ W * (q.w * det r s p) ∧ W * (q.w * det r s p) ≤ W * (xs p q r s).w) ↔ (0 ≤ det r s p ∧ det r s q ≤ 0) := by
        have a1 := mul_nn (x := W * q.w) (a := det r s p) (Int.mul_pos hWp hq)
        have a2 := mul_nn (x := W * p.w) (a := -det r s q) (Int.mul_pos hWp hp)
        have b1 : W * q.w * det r s p = W * (q.w * det r s p) := by grind
        have b2 : W * p.w * -det r s q = W * (xs p q r s).w - W * (q.w * det r s p) := by rw [i4]; grind
        omega
      have c2 : (0 ≤ W * -(s.w * det p q r) ∧ W * -(s.w * det p q r) ≤ W * (xs p q r s).w) ↔ (0 ≤ det p q s ∧ det p q r ≤ 0) := by
        have a1 := mul_nn (x := W * s.w) (a := -det p q r) (Int.mul_pos hWp hs)
        have a2 := mul_nn (x := W * r.w) (a := det p q s) (Int.mul_pos hWp hr)
        have b1 : W * s.w * -det p q r = W * -(s.w * det p q r) := by grind
        have b2 : W * r.w * det p q s = W * (xs p q r s).w - W * -(s.w * det p q r) := by rw [i5]; grind
        omega
      have cm : det p q s * det p q r = det p q r * det p q s := Int.mul_comm ..
      rw [cm] at k2
      by_cases hc : 0 < det p q r * det p q s ∨ 0 < det r s p * det r s q
      · rw [if_pos hc, if_neg]
        rintro ⟨z1, z2⟩
        rcases hc with z | z
        · exact k2.mp (c2.mp z2) z
        · exact k1.mp (c1.mp z1) z
      · rw [if_neg hc, if_pos ⟨c1.mpr (k1.mpr fun z => hc (.inr z)), c2.mpr (k2.mpr fun z => hc (.inl z))⟩]
        congr 3
        unfold sp3
        rw [if_neg hn]
        have n1 : ∀ x : Int, W * x = W * (1 * x) := fun x => by grind
        rw [n1 (xs p q r s).w, n1 (q.w * det r s p), ex, ey, show W * (W * (1 * (xs p q r s).w)) = W * W * (1 * (xs p q r s).w) by grind, spD3_scale hWW]
        congr 1 <;> grind
theorem sp3_neg {x y w : Int} (h : w ≠ 0) : sp3 (-x) (-y) (-w) = sp3 x y w := by
  unfold sp3
  by_cases hw : w < 0
  · rw [if_neg (by omega), if_pos hw]
  · rw [if_pos (by omega), if_neg hw, Int.neg_neg, Int.neg_neg, Int.neg_neg]
theorem meetV_swap : meetV q p r s = meetV p q r s := by
  have e1 : det q p r = -det p q r := by unfold det; grind
  have e2 : det q p s = -det p q s := by unfold det; grind
  have e3 : xs q p r s = ⟨-(xs p q r s).x, -(xs p q r s).y, -(xs p q r s).w⟩ := by
    unfold xs cr
    congr 1 <;> grind
  have e4 : -det p q r * -det p q s = det p q r * det p q s := by grind
  have e5 : det r s q * det r s p = det r s p * det r s q := Int.mul_comm ..
  unfold meetV
  rw [e1, e2, e3, e4, e5, strD_swap]
  by_cases h0 : det p q r = 0 ∧ det p q s = 0
  · rw [if_pos h0, if_pos ⟨by omega, by omega⟩]
  · rw [if_neg h0, if_neg (fun z => h0 ⟨by omega, by omega⟩)]
    by_cases h1 : 0 < det p q r * det p q s ∨ 0 < det r s p * det r s q
    · rw [if_pos h1, if_pos h1]
    · rw [if_neg h1, if_neg h1]
      rw [sp3_neg (xsw_ne h0 fun z => h1 (.inl z))]
theorem meetV_pair (hpq : eqV p q = false) (hrs : eqV r s = false) : meetV r s p q = meetV p q r s := by
  have e3 : xs r s p q = ⟨-(xs p q r s).x, -(xs p q r s).y, -(xs p q r s).w⟩ := by
    unfold xs cr
    congr 1 <;> grind
  by_cases hw : (xs p q r s).w = 0
  · have hw' : (xs r s p q).w = 0 := by rw [e3]; simp [hw]
    rw [meetV_zero hpq hrs hw, meetV_zero hrs hpq hw', strD_pair]
    have pz := par_zero hpq hrs hw
    by_cases h : det r s p = 0
    · rw [if_pos h, if_pos (pz.mp h)]
    · rw [if_neg h, if_neg (fun z => h (pz.mpr z))]
  · have hw' : (xs r s p q).w ≠ 0 := by rw [e3]; simp [hw]
    rw [meetV_ne hw, meetV_ne hw', e3]
    by_cases h1 : 0 < det p q r * det p q s ∨ 0 < det r s p * det r s q
    · rw [if_pos h1, if_pos h1.symm]
    · rw [if_neg h1, if_neg (fun z => h1 z.symm)]
      rw [sp3_neg hw]
end
end K02

namespace K02
open PySem PySem.Spec PyProof.Rows L2 Mi
variable {S T : Sto} {N : Nat}
def VS (d : D) : Prop := ∃ x y w, d = t3 x y w ∧ 1 ≤ w ∧ g3 x y w = 1
theorem SpOk.vs {M : Int} {d : D} (h : SpOk M d) : VS d := by
  obtain ⟨x, y, w, e, _, _, _, _, h5, _, h7⟩ := h
  exact ⟨x, y, w, e, h5, h7⟩
theorem vs_low {x y w : Int} (h : 0 < w) : VS (spD3 x y w) := by
  obtain ⟨g, a, b, c, hg, ha, hb, hc, hc0, hcw, hl, e, e1, e2⟩ := low_parts (x := x) (y := y) (w := w) h
  exact ⟨a, b, c, e, by omega, hl⟩
theorem g3_one {x y : Int} : g3 x y 1 = 1 := by
  unfold g3 g2
  simp
theorem SpOk.v {d : D} (h : SpOk 1000000000000000 d) : ∃ v : V3, d = v.d ∧ V3.Ok v := by
  obtain ⟨x, y, w, e, b1, b2, b3, h5, h7⟩ := h.get
  exact ⟨⟨x, y, w⟩, e, ⟨b1, b2, b3, h5, h7⟩⟩
theorem on_ok {p q : D} (h : DkP N T S) (hN : N + 1 ≤ 1000000000) (hp : SpOk 1000000000000000 p) (hq : SpOk 1000000000000000 q) :
    Ens (m__law_on [.loc 1, p, q] S) fun a S' => SpOk 1000000000000000 a ∧ DkP (N + 1) T S' := by
  obtain ⟨p0, p1, p2, ep, i1, i2, i3, hp2, gp⟩ := hp.get
  obtain ⟨q0, q1, q2, eq, j1, j2, j3, hq2, gq⟩ := hq.get
  subst ep eq
  simp [m__law_on, b__law_on, startE]
  refine (pick_ok h (by omega) (by simp) (by simp)).mono ?_
  rintro a S1 ⟨ha, h1⟩
  have hnd : ∃ n d, a = t2 n d ∧ Bd n 64 ∧ Bd d 64 ∧ 0 < d := by
    simp at ha
    rcases ha with e | e | e | e | e | e | e | e | e | e | e <;> subst e <;> exact ⟨_, _, rfl, bd_lt (by decide) (by decide), bd_lt (by decide) (by decide), by decide⟩
  obtain ⟨n, d, e, bn, bd, hd⟩ := hnd
  subst e
  have hw : 0 < p2 * q2 * d := Int.mul_pos (Int.mul_pos (by omega) (by omega)) hd
  obtain ⟨g, a, b, c, hg, ha, hb, hc, hc0, hcw, hl, e1, _, _⟩ := low_parts (x := shX p0 q0 p2 q2 n d) (y := shX p1 q1 p2 q2 n d) (w := p2 * q2 * d) hw
  have ew := fun S => lalong_eq (S := S) (p0 := p0) (p1 := p1) (p2 := p2) (q0 := q0) (q1 := q1) (q2 := q2) (n := n) (d := d) (i := 64) (j := 64) (by decide) (by decide) (by omega) (by omega) hd
  obtain ⟨t, e, ht⟩ := within_ok (S := S1) (x := a) (y := b) (w := c) (M := 1000000000000000)
  simp [Ens_is (ew _), e1, Ens_is e]
  refine ⟨fun e => ?_, fun _ => ⟨hq, h1⟩⟩
  obtain ⟨u1, u2, u3, u4, u5⟩ := ht e
  exact ⟨⟨a, b, c, rfl, u1, u2, u3, u4, by omega, u5, hl⟩, h1⟩
theorem beside_ok {p : D} (h : DkP N T S) (hN : N + 2 ≤ 1000000000) (hp : SpOk 1000000000000000 p) :
    Ens (m__law_beside [.loc 1, p] S) fun a S' => SpOk 1000000000000000 a ∧ DkP (N + 2) T S' := by
  obtain ⟨p0, p1, p2, ep, i1, i2, i3, hp2, gp⟩ := hp.get
  subst ep
  simp [m__law_beside, b__law_beside, startE]
  refine (draw_ok h (by omega) (by decide) (Bd.up inferInstance (by decide))).mono ?_
  rintro _ S3 ⟨v2, ha, hw0, hw1, h4⟩
  subst ha
  simp
  refine (draw_ok h4 (by omega) (by decide) (Bd.up inferInstance (by decide))).mono ?_
  rintro _ S4 ⟨v3, ha, hu0, hu1, h5⟩
  subst ha
  obtain ⟨g, a, b, c, hg, ha, hb, hc, hc0, hcw, hl, e1, _, _⟩ := low_parts (x := p0 + v2 - 1) (y := p1 + v3 - 1) (w := p2) (by omega)
  obtain ⟨t, e, ht⟩ := within_ok (S := S4) (x := a) (y := b) (w := c) (M := 1000000000000000)
  simp [Ens_is (lspot_eq (m := 50) (by decide) (show 0 < p2 by omega)), e1, Ens_is e]
  refine ⟨fun e => ?_, fun _ => ⟨hp, h5⟩⟩
  obtain ⟨u1, u2, u3, u4, u5⟩ := ht e
  exact ⟨⟨a, b, c, rfl, u1, u2, u3, u4, by omega, u5, hl⟩, h5⟩
/-- what stands behind each of the ways -/
def Seg (M : Nat) (T : Sto) (most way : Int) (st : RS) : Prop := ∃ (p q r s : D) (e6 e8 e9 e10 e11 e12 e13 : Option D) (S : Sto),
  st = .nx [some (.loc 1), some (.int most), some p, some q, some r, some s, e6, some (.int way), e8, e9, e10, e11, e12, e13] S ∧ SpOk 1000000000000000 p ∧ SpOk 1000000000000000 q ∧ VS r ∧ VS s ∧ DkP M T S
def Seg2 (M : Nat) (T : Sto) (most way : Int) (st : RS) : Prop := ∃ (p q r s : D) (e6 e8 e9 e10 e11 e12 e13 : Option D) (S : Sto),
  st = .nx [some (.loc 1), some (.int most), some p, some q, some r, some s, e6, some (.int way), e8, e9, e10, e11, e12, e13] S ∧ SpOk 1000000000000000 p ∧ SpOk 1000000000000000 q ∧ SpOk 1000000000000000 r ∧ SpOk 1000000000000000 s ∧ DkP M T S
theorem sp_one {x y M : Int} (h1 : -M ≤ x) (h2 : x ≤ M) (h3 : -M ≤ y) (h4 : y ≤ M) (h5 : 1 ≤ M) : SpOk M (t3 x y 1) := ⟨x, y, 1, rfl, h1, h2, h3, h4, by decide, h5, g3_one⟩
/-- one of two spots moved aside -/
theorem other_ok {x y w k : Int} (b : SpOk 1000000000000000 (t3 x y w)) (hk : k = if 0 < x then -w else w) : SpOk 1000000000000000 (spD3 (x + k) y w) ∧ spD3 (x + k) y w ≠ t3 x y w := by
  obtain ⟨x', y', w', e, h1, h2, h3, h4, h5, h6, h7⟩ := b
  obtain ⟨e1, e2, e3⟩ : x = x' ∧ y = y' ∧ w = w' := by simpa using e
  subst e1 e2 e3
  have hkk : k ≠ 0 ∧ -1000000000000000 ≤ x + k ∧ x + k ≤ 1000000000000000 := by
    rw [hk]
    split <;> omega
  refine ⟨spD3_ok hkk.2.1 hkk.2.2 h3 h4 h5 h6, fun z => ?_⟩
  obtain ⟨g, a, b, c, hg, ha, hb, hc, hc0, hcw, hl, e1, _, _⟩ := low_parts (x := x + k) (y := y) (w := w) (by omega)
  rw [e1] at z
  obtain ⟨z1, z2, z3⟩ : a = x ∧ b = y ∧ c = w := by simpa using z
  subst z1 z2 z3
  have : g = 1 := by
    have q : g * c = 1 * c := by omega
    exact Int.eq_of_mul_eq_mul_right (by omega) q
  subst this
  omega
theorem other_ok2 {x y w k : Int} (b : SpOk 1000000000000000 (t3 x y w)) (hk : k = if 0 < y then -w else w) : SpOk 1000000000000000 (spD3 x (y + k) w) ∧ spD3 x (y + k) w ≠ t3 x y w := by
  obtain ⟨x', y', w', e, h1, h2, h3, h4, h5, h6, h7⟩ := b
  obtain ⟨e1, e2, e3⟩ : x = x' ∧ y = y' ∧ w = w' := by simpa using e
  subst e1 e2 e3
  have hkk : k ≠ 0 ∧ -1000000000000000 ≤ y + k ∧ y + k ≤ 1000000000000000 := by
    rw [hk]
    split <;> omega
  refine ⟨spD3_ok h1 h2 hkk.2.1 hkk.2.2 h5 h6, fun z => ?_⟩
  obtain ⟨g, a, b, c, hg, ha, hb, hc, hc0, hcw, hl, e1, _, _⟩ := low_parts (x := x) (y := y + k) (w := w) (by omega)
  rw [e1] at z
  obtain ⟨z1, z2, z3⟩ : a = x ∧ b = y ∧ c = w := by simpa using z
  subst z1 z2 z3
  have : g = 1 := by
    have q : g * c = 1 * c := by omega
    exact Int.eq_of_mul_eq_mul_right (by omega) q
  subst this
  omega
theorem inD_45 {v : Int} : inD S (.int v) (.tup [.int 4, .int 5]) = some (.bl (decide (v = 4 ∨ v = 5))) := by
  unfold inD inB
  simp only [der, D.flat, List.all_cons, List.all_nil, Bool.and_self, if_true, List.any_cons, List.any_nil, D.py, PyData.eqv]
  by_cases h1 : v = 4
  · subst h1; rfl
  · by_cases h2 : v = 5
    · subst h2; rfl
    · simp [h1, h2]
      exact ⟨fun z => h1 z.symm, fun z => h2 z.symm⟩
theorem seg_ok (h : DkP N T S) (hN : N + 1000 ≤ 1000000000) :
    Ens (m__law_segments [.loc 1] S) fun a S' => ∃ p q r s : V3, a = .tup [p.d, q.d, r.d, s.d] ∧ V3.Ok p ∧ V3.Ok q ∧ V3.Ok r ∧ V3.Ok s ∧ eqV p q = false ∧ eqV r s = false ∧ DkP (N + 1000) T S' := by
  simp [m__law_segments, b__law_segments, startE, -EnsS_sIf, -Ens_mIf]
  refine (most_ok h (by omega)).mono ?_
  rintro _ S1 ⟨most, ha, hm0, hm1, h2⟩
  subst ha
  simp [wipeE, rangeD, List.range_succ, Ens_lc_cons, Ens_lc_nil, -EnsS_sIf, -Ens_mIf]
  refine (anyspot_ok h2 (by omega) (by omega) hm1).mono ?_
  rintro p S2 ⟨hp, h3⟩
  refine (anyspot_ok h3 (by omega) (by omega) hm1).mono ?_
  rintro q S3 ⟨hq, h4⟩
  refine (anyspot_ok h4 (by omega) (by omega) hm1).mono ?_
  rintro r S4 ⟨hr, h5⟩
  refine (anyspot_ok h5 (by omega) (by omega) hm1).mono ?_
  rintro s S5 ⟨hs, h6⟩
  have hp := hp.up hm1
  have hq := hq.up hm1
  have hr := hr.up hm1
  have hs := hs.up hm1
  refine (draw_ok h6 (by omega) (by decide) (Bd.up inferInstance (by decide))).mono ?_
  rintro _ S6 ⟨way, ha, hv0, hv1, h7⟩
  subst ha
  have h8 : DkP (N + 100) T S6 := h7.up (by omega)
  refine EnsS.mono (P := Seg (N + 200) T most way) ?_ ?_
  · simp
    refine ⟨fun _ => ?_, fun _ => ⟨p, q, r, s, _, _, _, _, _, _, _, S6, rfl, hp, hq, hr.vs, hs.vs, h8.up (by omega)⟩⟩
    refine (on_ok h8 (by omega) hp hq).mono ?_
    rintro near S7 ⟨hn, h9⟩
    refine (pick_ok h9 (by omega) (by simp) (by simp)).mono ?_
    rintro a S8 ⟨ha, h10⟩
    have hd1 : ∃ d, a = .int d ∧ Bd d 64 := by
      simp at ha
      rcases ha with e | e | e <;> subst e <;> exact ⟨_, rfl, inferInstance⟩
    obtain ⟨n, e, bn⟩ := hd1
    subst e
    obtain ⟨r0, r1, r2, er, i1, i2, i3, hr2, gr⟩ := hr.get
    obtain ⟨n0, n1, n2, en, j1, j2, j3, hn2, gn⟩ := hn.get
    subst er en
    rw [Ens_is (lalong_eq (i := 64) (j := 64) (by decide) (by decide) (show 0 < r2 by omega) (show 0 < n2 by omega) (by decide))]
    exact ⟨p, q, _, _, _, _, _, _, _, _, _, S8, rfl, hp, hq, hr.vs, vs_low (Int.mul_pos (Int.mul_pos (by omega) (by omega)) (by decide)), h10.up (by omega)⟩
  clear hp hq hr hs h7 h8 h6 h5 h4 h3
  rintro _ ⟨p, q, r, s, e6, e8, e9, e10, e11, e12, e13, S7, e, hp, hq, hr, hs, h1⟩
  subst e
  simp [-EnsS_sIf, -Ens_mIf]
  refine EnsS.mono (P := Seg (N + 250) T most way) ?_ ?_
  · simp
    refine ⟨fun _ => ?_, fun _ => ⟨p, q, r, s, _, _, _, _, _, _, _, S7, rfl, hp, hq, hr, hs, h1.up (by omega)⟩⟩
    refine (on_ok h1 (by omega) hp hq).mono ?_
    rintro r S8 ⟨hr, h2⟩
    exact ⟨p, q, r, s, _, _, _, _, _, _, _, S8, rfl, hp, hq, hr.vs, hs, h2.up (by omega)⟩
  clear hp hq hr hs h1
  rintro _ ⟨p, q, r, s, e6, e8, e9, e10, e11, e12, e13, S7, e, hp, hq, hr, hs, h1⟩
  subst e
  simp [-EnsS_sIf, -Ens_mIf]
  refine EnsS.mono (P := Seg (N + 300) T most way) ?_ ?_
  · simp
    refine ⟨fun _ => ?_, fun _ => ⟨p, q, r, s, _, _, _, _, _, _, _, S7, rfl, hp, hq, hr, hs, h1.up (by omega)⟩⟩
    refine (on_ok h1 (by omega) hp hq).mono ?_
    rintro r S8 ⟨hr, h2⟩
    refine (beside_ok h2 (by omega) hr).mono ?_
    rintro r S9 ⟨hr, h3⟩
    exact ⟨p, q, r, s, _, _, _, _, _, _, _, S9, rfl, hp, hq, hr.vs, hs, h3.up (by omega)⟩
  clear hp hq hr hs h1
  rintro _ ⟨p, q, r, s, e6, e8, e9, e10, e11, e12, e13, S7, e, hp, hq, hr, hs, h1⟩
  subst e
  simp [-EnsS_sIf, -Ens_mIf]
  refine EnsS.mono (P := Seg (N + 350) T most way) ?_ ?_
  · simp
    refine ⟨fun _ => ?_, fun _ => ⟨p, q, r, s, _, _, _, _, _, _, _, S7, rfl, hp, hq, hr, hs, h1.up (by omega)⟩⟩
    refine (pick_ok h1 (by omega) (by simp) (by simp)).mono ?_
    rintro a S8 ⟨ha, h2⟩
    have hv : SpOk 1000000000000000 a := by
      simp at ha
      rcases ha with e | e <;> subst e
      · exact hp
      · exact hq
    exact ⟨p, q, a, s, _, _, _, _, _, _, _, S8, rfl, hp, hq, hv.vs, hs, h2.up (by omega)⟩
  clear hp hq hr hs h1
  rintro _ ⟨p, q, r, s, e6, e8, e9, e10, e11, e12, e13, S7, e, hp, hq, hr, hs, h1⟩
  subst e
  simp [-EnsS_sIf, -Ens_mIf]
  refine EnsS.mono (P := Seg (N + 400) T most way) ?_ ?_
  · simp [inD_45]
    refine ⟨fun _ => ?_, fun _ _ => ⟨p, q, r, s, _, _, _, _, _, _, _, S7, rfl, hp, hq, hr, hs, h1.up (by omega)⟩⟩
    refine (on_ok h1 (by omega) hp hq).mono ?_
    rintro r S8 ⟨hr, h2⟩
    refine (on_ok h2 (by omega) hp hq).mono ?_
    rintro s S9 ⟨hs, h3⟩
    exact ⟨p, q, r, s, _, _, _, _, _, _, _, S9, rfl, hp, hq, hr.vs, hs.vs, h3.up (by omega)⟩
  clear hp hq hr hs h1
  rintro _ ⟨p, q, r, s, e6, e8, e9, e10, e11, e12, e13, S7, e, hp, hq, hr, hs, h1⟩
  subst e
  simp [-EnsS_sIf, -Ens_mIf]
  refine EnsS.mono (P := Seg (N + 450) T most way) ?_ ?_
  · obtain ⟨p0, p1, p2, ep, i1, i2, i3, hp2, gp⟩ := hp.get
    obtain ⟨q0, q1, q2, eq, j1, j2, j3, hq2, gq⟩ := hq.get
    subst ep eq
    simp [wipeE, Ens_lc_cons, Ens_lc_nil, Ens_is (lspot_eq (m := 50) (by decide) (show 0 < p2 by omega)), Ens_is (lspot_eq (m := 50) (by decide) (show 0 < q2 by omega))]
    exact ⟨fun _ => ⟨_, _, _, _, _, _, _, _, _, _, _, S7, rfl, hp, hq, vs_low (by omega), vs_low (by omega), h1.up (by omega)⟩, fun _ => ⟨_, _, r, s, _, _, _, _, _, _, _, S7, rfl, hp, hq, hr, hs, h1.up (by omega)⟩⟩
  clear hp hq hr hs h1
  rintro _ ⟨p, q, r, s, e6, e8, e9, e10, e11, e12, e13, S7, e, hp, hq, hr, hs, h1⟩
  subst e
  simp [-EnsS_sIf, -Ens_mIf]
  refine EnsS.mono (P := Seg (N + 600) T most way) ?_ ?_
  · simp [-Ens_mIf, -EnsS_sSeq]
    refine ⟨fun _ => ?_, fun _ => ⟨p, q, r, s, _, _, _, _, _, _, _, S7, rfl, hp, hq, hr, hs, h1.up (by omega)⟩⟩
    simp [-Ens_mIf]
    refine (number_ok h1 (by omega) (by omega) hm1).mono ?_
    rintro _ S8 ⟨y, ha, hy0, hy1, h2⟩
    subst ha
    refine (draw_ok h2 (by omega) (by decide) (Bd.up inferInstance (by decide))).mono ?_
    rintro _ S9 ⟨flip, ha, _, _, h3⟩
    subst ha
    simp [wipeE, rangeD, List.range_succ, Ens_lc_cons, Ens_lc_nil, -Ens_mIf]
    refine (number_ok h3 (by omega) (by omega) hm1).mono ?_
    rintro _ S10 ⟨x1, ha, a10, a11, h4⟩
    subst ha
    refine (number_ok h4 (by omega) (by omega) hm1).mono ?_
    rintro _ S11 ⟨x2, ha, a20, a21, h5⟩
    subst ha
    refine (number_ok h5 (by omega) (by omega) hm1).mono ?_
    rintro _ S12 ⟨x3, ha, a30, a31, h6⟩
    subst ha
    refine (number_ok h6 (by omega) (by omega) hm1).mono ?_
    rintro _ S13 ⟨x4, ha, a40, a41, h7⟩
    subst ha
    have h8 := h7.up (M := N + 550) (by omega)
    have one : ∀ x : Int, -most ≤ x → x ≤ most → SpOk 1000000000000000 (t3 x y 1) ∧ SpOk 1000000000000000 (t3 y x 1) := fun x g1 g2 => ⟨sp_one (by omega) (by omega) (by omega) (by omega) (by decide), sp_one (by omega) (by omega) (by omega) (by omega) (by decide)⟩
    have o1 := one x1 a10 a11
    have o2 := one x2 a20 a21
    have o3 := one x3 a30 a31
    have o4 := one x4 a40 a41
    by_cases hf : flip = 0
    · subst hf
      simp
      refine (draw_ok h8 (by omega) (by decide) (Bd.up inferInstance (by decide))).mono ?_
      rintro _ S14 ⟨t, ha, _, _, h9⟩
      subst ha
      simp
      exact ⟨fun _ => ⟨_, _, _, _, _, _, _, _, _, _, _, S14, rfl, o1.1, o2.1, o3.1.vs, o4.2.vs, h9.up (by omega)⟩, fun _ => ⟨_, _, _, _, _, _, _, _, _, _, _, S14, rfl, o1.1, o2.1, o3.1.vs, o4.1.vs, h9.up (by omega)⟩⟩
    · simp [hf]
      refine (draw_ok h8 (by omega) (by decide) (Bd.up inferInstance (by decide))).mono ?_
      rintro _ S14 ⟨t, ha, _, _, h9⟩
      subst ha
      simp
      exact ⟨fun _ => ⟨_, _, _, _, _, _, _, _, _, _, _, S14, rfl, o1.2, o2.2, o3.2.vs, o4.1.vs, h9.up (by omega)⟩, fun _ => ⟨_, _, _, _, _, _, _, _, _, _, _, S14, rfl, o1.2, o2.2, o3.2.vs, o4.2.vs, h9.up (by omega)⟩⟩
  clear hp hq hr hs h1
  rintro _ ⟨p, q, r, s, e6, e8, e9, e10, e11, e12, e13, S7, e, hp, hq, hr, hs, h1⟩
  subst e
  simp [-EnsS_sIf, -Ens_mIf]
  refine EnsS.mono (P := Seg2 (N + 600) T most way) ?_ ?_
  · obtain ⟨r0, r1, r2, er, hr2, gr⟩ := hr
    obtain ⟨s0, s1, s2, es, hs2, gs⟩ := hs
    subst er es
    obtain ⟨t, e, ht⟩ := within_ok (S := S7) (x := r0) (y := r1) (w := r2) (M := 1000000000000000)
    obtain ⟨t', e', ht'⟩ := within_ok (S := S7) (x := s0) (y := s1) (w := s2) (M := 1000000000000000)
    have other : Seg2 (N + 600) T most way (.nx [some (.loc 1), some (.int most), some p, some q, some (t3 0 1 1), some (t3 1 0 1), e6, some (.int way), e8, e9, e10, e11, e12, e13] S7) :=
      ⟨p, q, _, _, _, _, _, _, _, _, _, S7, rfl, hp, hq, sp_one (by decide) (by decide) (by decide) (by decide) (by decide), ⟨1, 0, 1, rfl, by decide, by decide, by decide, by decide, by decide, by decide, g3_one⟩, h1⟩
    simp [Ens_is e, Ens_is e']
    refine ⟨fun _ => other, fun et => ⟨fun _ => other, fun et' => ?_⟩⟩
    obtain ⟨u1, u2, u3, u4, u5⟩ := ht et
    obtain ⟨v1, v2, v3, v4, v5⟩ := ht' et'
    exact ⟨p, q, _, _, _, _, _, _, _, _, _, S7, rfl, hp, hq, ⟨r0, r1, r2, rfl, u1, u2, u3, u4, hr2, u5, gr⟩, ⟨s0, s1, s2, rfl, v1, v2, v3, v4, hs2, v5, gs⟩, h1⟩
  clear hp hq hr hs h1
  rintro _ ⟨p, q, r, s, e6, e8, e9, e10, e11, e12, e13, S7, e, hp, hq, hr, hs, h1⟩
  subst e
  simp [-EnsS_sIf, -Ens_mIf]
  refine Ens.mono (P := fun a S' => SpOk 1000000000000000 a ∧ a ≠ p ∧ S' = S7) ?_ ?_
  · obtain ⟨p0, p1, p2, ep, i1, i2, i3, hp2, gp⟩ := hp.get
    obtain ⟨q0, q1, q2, eq, j1, j2, j3, hq2, gq⟩ := hq.get
    subst ep eq
    by_cases hx : 0 < p0
    · have o := other_ok hp (show -p2 = if 0 < p0 then -p2 else p2 by rw [if_pos hx])
      simp [hx, show ¬ p0 ≤ 0 by omega, Ens_is (lspot_eq (m := 50) (by decide) (show 0 < p2 by omega))]
      refine ⟨fun z => ⟨hq, fun a b c => ?_⟩, fun _ _ _ => o⟩
      rcases z with z | z | z
      · exact z a
      · exact z b
      · exact z c
    · have o := other_ok hp (show p2 = if 0 < p0 then -p2 else p2 by rw [if_neg hx])
      simp [hx, show p0 ≤ 0 by omega, Ens_is (lspot_eq (m := 50) (by decide) (show 0 < p2 by omega))]
      refine ⟨fun z => ⟨hq, fun a b c => ?_⟩, fun _ _ _ => o⟩
      rcases z with z | z | z
      · exact z a
      · exact z b
      · exact z c
  clear hq
  rintro q S8 ⟨hq, hne, e⟩
  subst e
  refine Ens.mono (P := fun a S' => SpOk 1000000000000000 a ∧ a ≠ r ∧ S' = S8) ?_ ?_
  · obtain ⟨p0, p1, p2, ep, i1, i2, i3, hp2, gp⟩ := hr.get
    obtain ⟨q0, q1, q2, eq, j1, j2, j3, hq2, gq⟩ := hs.get
    subst ep eq
    by_cases hx : 0 < p1
    · have o := other_ok2 hr (show -p2 = if 0 < p1 then -p2 else p2 by rw [if_pos hx])
      simp [hx, show ¬ p1 ≤ 0 by omega, Ens_is (lspot_eq (m := 50) (by decide) (show 0 < p2 by omega))]
      refine ⟨fun z => ⟨hs, fun a b c => ?_⟩, fun _ _ _ => o⟩
      rcases z with z | z | z
      · exact z a
      · exact z b
      · exact z c
    · have o := other_ok2 hr (show p2 = if 0 < p1 then -p2 else p2 by rw [if_neg hx])
      simp [hx, show p1 ≤ 0 by omega, Ens_is (lspot_eq (m := 50) (by decide) (show 0 < p2 by omega))]
      refine ⟨fun z => ⟨hs, fun a b c => ?_⟩, fun _ _ _ => o⟩
      rcases z with z | z | z
      · exact z a
      · exact z b
      · exact z c
  clear hs
  rintro s _ ⟨hs, hne2, e⟩
  subst e
  obtain ⟨p', ep, op⟩ := hp.v
  obtain ⟨q', eq, oq⟩ := hq.v
  obtain ⟨r', er, or_⟩ := hr.v
  obtain ⟨s', es, os⟩ := hs.v
  subst ep eq er es
  refine ⟨p', q', r', s', ⟨rfl, rfl, rfl, rfl⟩, op, oq, or_, os, ?_, ?_, h1.up (by omega)⟩
  · refine decide_eq_false fun z => hne ?_
    show D.tup _ = D.tup _
    rw [z.1, z.2.1, z.2.2]
  · refine decide_eq_false fun z => hne2 ?_
    show D.tup _ = D.tup _
    rw [z.1, z.2.1, z.2.2]
end K02

namespace K02
open PySem PySem.Spec PyProof.Rows L2 Mi
variable {S T : Sto} {N : Nat}
theorem eqV_comm {p q : V3} (h : eqV p q = false) : eqV q p = false := by
  have h' := of_decide_eq_false h
  exact decide_eq_false fun z => h' ⟨z.1.symm, z.2.1.symm, z.2.2.symm⟩
theorem spD3_fit {n : Nat} {x y w : Int} : fit (n + 2) (spD3 x y w) = true := by simp [fit, spD3]
theorem v3_fit {n : Nat} {p : V3} : fit (n + 2) p.d = true := by simp [fit]
theorem meet_fit {p q r s : V3} : fit 5 (meetV p q r s) = true := by
  have h1 : SeqAt.shaped (.str (PySem.Str.ofString "at")) = true := by decide +kernel
  have h2 : SeqAt.shaped (.str (PySem.Str.ofString "along")) = true := by decide +kernel
  have e : ∀ f l : V3, fit 5 (endD f l) = true := fun f l => by
    unfold endD
    split
    · rfl
    · split
      · simp [fit, h1]
      · simp [fit, h2]
  unfold meetV
  split
  · exact e _ _
  · split
    · rfl
    · have : fit 4 (sp3 (xs p q r s).x (xs p q r s).y (xs p q r s).w) = true := by
        unfold sp3
        split <;> exact spD3_fit
      simp [fit, h1]
      exact this
theorem law_true : ∀ ns : List Int, ns.length ≤ 63 → ∀ d, (d = D.lst (ns.map D.int) ∨ d = D.wls (ns.map D.int)) → ∃ S, m_law [d] [] = .ok (.bl true) S := by
  intro ns hns d hd
  suffices h : Ens (m_law [d] []) fun a S => a = .bl true by
    obtain ⟨a, S, e, h⟩ := h.eq
    exact ⟨S, by rw [e, h]⟩
  simp [m_law, b_law, startE]
  refine (deck_ok ns hns d hd).mono ?_
  rintro _ S0 ⟨ha, h0⟩
  subst ha
  refine for_inv (fun k env S => DkP (k * 1000) [] S ∧ ∃ (l : List (Option D)), env = some d :: some (.loc 1) :: l ∧ l.length = 10) _ 0 _ _ ⟨by simpa using h0, _, rfl, rfl⟩ (fun _ _ _ _ _ _ => trivial) (fun i d' env S _ hd' hi => ?_) (fun env S hi => ?_)
  · obtain ⟨h1, l, e, hl⟩ := hi
    obtain ⟨hi5, e2⟩ := rng_get hd'
    subst e e2
    match l, hl with
    | [l3, l4, l5, l6, l7, l8, l9, l10, l11, l12], _ =>
    simp
    refine (seg_ok h1 (by omega)).mono ?_
    rintro _ S1 ⟨p, q, r, s, ha, op, oq, or_, os, hpq, hrs, h2⟩
    subst ha
    have hqp := eqV_comm hpq
    have hsr := eqV_comm hrs
    have w1 : meetV q p r s = meetV p q r s := meetV_swap
    have w2 : meetV r s p q = meetV p q r s := meetV_pair hpq hrs
    have w3 : meetV s r p q = meetV p q r s := meetV_swap.trans w2
    have w4 : meetV p q s r = meetV p q r s := (meetV_pair hsr hpq).trans w3
    have w5 : meetV q p s r = meetV p q r s := meetV_swap.trans w4
    have w6 : meetV r s q p = meetV p q r s := (meetV_pair hqp hrs).trans w1
    have w7 : meetV s r q p = meetV p q r s := meetV_swap.trans w6
    have sm := fun S => same_ok 5 _ (meet_fit (p := p) (q := q) (r := r) (s := s)) S
    simp [Ens_is (lmeetV hpq hrs), EnsS_for_cons, EnsS_for_nil, Ens_is (meeting_eq hpq hrs), Ens_is (meeting_eq hqp hrs), Ens_is (meeting_eq hpq hsr), Ens_is (meeting_eq hqp hsr), Ens_is (meeting_eq hrs hpq), Ens_is (meeting_eq hsr hpq), Ens_is (meeting_eq hrs hqp), Ens_is (meeting_eq hsr hqp), w1, w2, w3, w4, w5, w6, w7, Ens_is (sm _)]
    exact h2.up (by omega)
  · obtain ⟨h1, l, e, hl⟩ := hi
    subst e
    simp
end K02

set_option maxHeartbeats 0
open PySem PySem.Spec PyProof.Rows L2 Mi
namespace K02
def loose0 : List Str := ["MapError", "BadSpot", "BadLine", "is_int", "is_from", "is_tuple", "common_part", "AT", "ALONG", "is_spot_value", "need_spot", "need_spots", "lowest_spot", "sign", "cross", "dot", "turn_of", "is_ahead", "sorted_spots", "common_stretch", "meeting_of", "meeting", "_law_deck", "_law_draw", "_law_pick", "_law_far", "_law_is_bool", "_law_same", "_law_gcd", "_law_spot"]
def loose1 : List Str := ["_law_number", "_law_any_spot", "_law_most", "_law_is_ahead", "_law_along", "_law_is_within", "_law_meeting", "_law_beside", "_law_on", "_law_segments"]
def loose : List Str := loose0 ++ loose1
abbrev R : PySem.W.OpenRow := PySem.W.OpenLaw.row PySem.Challenge.rw_everyscale_k02_whole_meetings_of_segment
abbrev hk : PySem.W.Hook := He.hookD 4 fa fn
def ob (s : PySem.W.SharedT) : He.AlD := He.obsDG 4 fa fn (HandSHeadRun.getT s)
theorem ob_eq (s : PySem.W.SharedT) : ob s = hk.obs s.abs := He.obsDG_eq (HandSHeadRun.getT_eq s)
theorem run (w : World) : HandSHeadRun.RunEq R (PySem.W.view R.prog [46]) hk ob 12000 loose w := by
  intro os
  kernel_rfl
theorem facts {K : PySem.W.Frag} {h : Heap} {mg : Str → Option Value} (X : K.In h) (G : h.Ns mainGlobals mg) (c : He.SaysD fa fn K) : Fx K mg where
  g_is_int := ⟨_, (c.def_ 0 rfl).choose, ⟨(c.def_ 0 rfl).choose_spec, He.glo_ok X G (c.fact 0 (f := .glo "is_int") rfl)⟩⟩
  g_is_from := ⟨_, (c.def_ 1 rfl).choose, ⟨(c.def_ 1 rfl).choose_spec, He.glo_ok X G (c.fact 1 (f := .glo "is_from") rfl)⟩⟩
  g_is_tuple := ⟨_, (c.def_ 2 rfl).choose, ⟨(c.def_ 2 rfl).choose_spec, He.glo_ok X G (c.fact 2 (f := .glo "is_tuple") rfl)⟩⟩
  g_common_part := ⟨_, (c.def_ 3 rfl).choose, ⟨(c.def_ 3 rfl).choose_spec, He.glo_ok X G (c.fact 3 (f := .glo "common_part") rfl)⟩⟩
  g_is_spot_value := ⟨_, (c.def_ 4 rfl).choose, ⟨(c.def_ 4 rfl).choose_spec, He.glo_ok X G (c.fact 4 (f := .glo "is_spot_value") rfl)⟩⟩
  g_need_spot := ⟨_, (c.def_ 5 rfl).choose, ⟨(c.def_ 5 rfl).choose_spec, He.glo_ok X G (c.fact 5 (f := .glo "need_spot") rfl)⟩⟩
  g_need_spots := ⟨_, (c.def_ 6 rfl).choose, ⟨(c.def_ 6 rfl).choose_spec, He.glo_ok X G (c.fact 6 (f := .glo "need_spots") rfl)⟩⟩
  g_lowest_spot := ⟨_, (c.def_ 7 rfl).choose, ⟨(c.def_ 7 rfl).choose_spec, He.glo_ok X G (c.fact 7 (f := .glo "lowest_spot") rfl)⟩⟩
  g_sign := ⟨_, (c.def_ 8 rfl).choose, ⟨(c.def_ 8 rfl).choose_spec, He.glo_ok X G (c.fact 8 (f := .glo "sign") rfl)⟩⟩
  g_cross := ⟨_, (c.def_ 9 rfl).choose, ⟨(c.def_ 9 rfl).choose_spec, He.glo_ok X G (c.fact 9 (f := .glo "cross") rfl)⟩⟩
  g_dot := ⟨_, (c.def_ 10 rfl).choose, ⟨(c.def_ 10 rfl).choose_spec, He.glo_ok X G (c.fact 10 (f := .glo "dot") rfl)⟩⟩
  g_turn_of := ⟨_, (c.def_ 11 rfl).choose, ⟨(c.def_ 11 rfl).choose_spec, He.glo_ok X G (c.fact 11 (f := .glo "turn_of") rfl)⟩⟩
  g_is_ahead := ⟨_, (c.def_ 12 rfl).choose, ⟨(c.def_ 12 rfl).choose_spec, He.glo_ok X G (c.fact 12 (f := .glo "is_ahead") rfl)⟩⟩
  g_sorted_spots := ⟨_, (c.def_ 13 rfl).choose, ⟨(c.def_ 13 rfl).choose_spec, He.glo_ok X G (c.fact 13 (f := .glo "sorted_spots") rfl)⟩⟩
  g_common_stretch := ⟨_, (c.def_ 14 rfl).choose, ⟨(c.def_ 14 rfl).choose_spec, He.glo_ok X G (c.fact 14 (f := .glo "common_stretch") rfl)⟩⟩
  g_meeting_of := ⟨_, (c.def_ 15 rfl).choose, ⟨(c.def_ 15 rfl).choose_spec, He.glo_ok X G (c.fact 15 (f := .glo "meeting_of") rfl)⟩⟩
  g_meeting := ⟨_, (c.def_ 16 rfl).choose, ⟨(c.def_ 16 rfl).choose_spec, He.glo_ok X G (c.fact 16 (f := .glo "meeting") rfl)⟩⟩
  g__law_deck := ⟨_, (c.def_ 17 rfl).choose, ⟨(c.def_ 17 rfl).choose_spec, He.glo_ok X G (c.fact 17 (f := .glo "_law_deck") rfl)⟩⟩
  g__law_draw := ⟨_, (c.def_ 18 rfl).choose, ⟨(c.def_ 18 rfl).choose_spec, He.glo_ok X G (c.fact 18 (f := .glo "_law_draw") rfl)⟩⟩
  g__law_pick := ⟨_, (c.def_ 19 rfl).choose, ⟨(c.def_ 19 rfl).choose_spec, He.glo_ok X G (c.fact 19 (f := .glo "_law_pick") rfl)⟩⟩
  g__law_far := ⟨_, (c.def_ 20 rfl).choose, ⟨(c.def_ 20 rfl).choose_spec, He.glo_ok X G (c.fact 20 (f := .glo "_law_far") rfl)⟩⟩
  g__law_is_bool := ⟨_, (c.def_ 21 rfl).choose, ⟨(c.def_ 21 rfl).choose_spec, He.glo_ok X G (c.fact 21 (f := .glo "_law_is_bool") rfl)⟩⟩
  g__law_same := ⟨_, (c.def_ 22 rfl).choose, ⟨(c.def_ 22 rfl).choose_spec, He.glo_ok X G (c.fact 22 (f := .glo "_law_same") rfl)⟩⟩
  g__law_gcd := ⟨_, (c.def_ 23 rfl).choose, ⟨(c.def_ 23 rfl).choose_spec, He.glo_ok X G (c.fact 23 (f := .glo "_law_gcd") rfl)⟩⟩
  g__law_spot := ⟨_, (c.def_ 24 rfl).choose, ⟨(c.def_ 24 rfl).choose_spec, He.glo_ok X G (c.fact 24 (f := .glo "_law_spot") rfl)⟩⟩
  g__law_number := ⟨_, (c.def_ 25 rfl).choose, ⟨(c.def_ 25 rfl).choose_spec, He.glo_ok X G (c.fact 25 (f := .glo "_law_number") rfl)⟩⟩
  g__law_any_spot := ⟨_, (c.def_ 26 rfl).choose, ⟨(c.def_ 26 rfl).choose_spec, He.glo_ok X G (c.fact 26 (f := .glo "_law_any_spot") rfl)⟩⟩
  g__law_most := ⟨_, (c.def_ 27 rfl).choose, ⟨(c.def_ 27 rfl).choose_spec, He.glo_ok X G (c.fact 27 (f := .glo "_law_most") rfl)⟩⟩
  g__law_is_ahead := ⟨_, (c.def_ 28 rfl).choose, ⟨(c.def_ 28 rfl).choose_spec, He.glo_ok X G (c.fact 28 (f := .glo "_law_is_ahead") rfl)⟩⟩
  g__law_along := ⟨_, (c.def_ 29 rfl).choose, ⟨(c.def_ 29 rfl).choose_spec, He.glo_ok X G (c.fact 29 (f := .glo "_law_along") rfl)⟩⟩
  g__law_is_within := ⟨_, (c.def_ 30 rfl).choose, ⟨(c.def_ 30 rfl).choose_spec, He.glo_ok X G (c.fact 30 (f := .glo "_law_is_within") rfl)⟩⟩
  g__law_meeting := ⟨_, (c.def_ 31 rfl).choose, ⟨(c.def_ 31 rfl).choose_spec, He.glo_ok X G (c.fact 31 (f := .glo "_law_meeting") rfl)⟩⟩
  g__law_beside := ⟨_, (c.def_ 32 rfl).choose, ⟨(c.def_ 32 rfl).choose_spec, He.glo_ok X G (c.fact 32 (f := .glo "_law_beside") rfl)⟩⟩
  g__law_on := ⟨_, (c.def_ 33 rfl).choose, ⟨(c.def_ 33 rfl).choose_spec, He.glo_ok X G (c.fact 33 (f := .glo "_law_on") rfl)⟩⟩
  g__law_segments := ⟨_, (c.def_ 34 rfl).choose, ⟨(c.def_ 34 rfl).choose_spec, He.glo_ok X G (c.fact 34 (f := .glo "_law_segments") rfl)⟩⟩
  g_law := ⟨_, (c.def_ 35 rfl).choose, ⟨(c.def_ 35 rfl).choose_spec, He.glo_ok X G (c.fact 35 (f := .glo "law") rfl)⟩⟩
  n_abs := He.free_ok X G (c.fact 36 (f := .free "abs") rfl)
  n_bool := He.free_ok X G (c.fact 37 (f := .free "bool") rfl)
  n_int := He.free_ok X G (c.fact 38 (f := .free "int") rfl)
  n_isinstance := He.free_ok X G (c.fact 39 (f := .free "isinstance") rfl)
  n_len := He.free_ok X G (c.fact 40 (f := .free "len") rfl)
  n_max := He.free_ok X G (c.fact 41 (f := .free "max") rfl)
  n_min := He.free_ok X G (c.fact 42 (f := .free "min") rfl)
  n_range := He.free_ok X G (c.fact 43 (f := .free "range") rfl)
  n_str := He.free_ok X G (c.fact 44 (f := .free "str") rfl)
  n_tuple := He.free_ok X G (c.fact 45 (f := .free "tuple") rfl)
  n_zip := He.free_ok X G (c.fact 46 (f := .free "zip") rfl)
  v_ALONG := He.str_ok X G (c.fact 47 (f := .str "ALONG" "along") rfl)
  v_AT := He.str_ok X G (c.fact 48 (f := .str "AT" "at") rfl)
end K02
open PySem PySem.W PySem.Calls PyProof.Rows
theorem PySem.Challenge.cw_everyscale_k02_whole_meetings_of_segment_holds : PySem.Challenge.rw_everyscale_k02_whole_meetings_of_segment.Holds := by
  w_on; o_law
  refine HandSHeadRun.head_any (r := OpenLaw.row PySem.Challenge.rw_everyscale_k02_whole_meetings_of_segment) (q := view (OpenLaw.row PySem.Challenge.rw_everyscale_k02_whole_meetings_of_segment).prog [46]) (H := K02.hk) (ob := K02.ob) (M := 12000) (loose := K02.loose) (d := HandSHeadRun.topDef (OpenLaw.row PySem.Challenge.rw_everyscale_k02_whole_meetings_of_segment).prog 46) (kwd := []) K02.ob_eq
    (by kernel_rfl) (fun s => by kernel_rfl) K02.run (by kernel_rfl) (by kernel_rfl) (by kernel_rfl) (by rfl) (by first | assumption | decide +kernel) (by decide +kernel) ⟨rfl, rfl, rfl, rfl, rfl, by decide +kernel⟩ ?hw ?hc
  case hw => w_witness2
  case hc =>
    refine L2.walk_ofE (l := PySem.Challenge.rw_everyscale_k02_whole_meetings_of_segment) (n := 63) (k := 8) (x := "script") (CX := L2.CX0) rfl (by decide) (by kernel_rfl) ⟨rfl, by decide, by decide⟩ ?F (fun _ _ _ _ z => z)
    intro w mg fa h Y G hmg0
    obtain ⟨K, KX, c⟩ := Y
    have hmg : mg ("law" : PySem.Str) = some (.ref fa) := by
      have e : (HandSHeadRun.topDef (OpenLaw.row PySem.Challenge.rw_everyscale_k02_whole_meetings_of_segment).prog 46).name = ("law" : PySem.Str) := by kernel_rfl
      rw [← e]
      exact hmg0
    have fx := K02.facts KX G c
    obtain ⟨f, fd, G1⟩ := fx.g_law
    have ef := G1.gl.symm.trans hmg
    cases ef
    have b := FunD.bindsA (ps := ["script"]) G1.fn K02.bd_law
    refine ⟨K, fd, Mi.spNo (Mi.spD K 1 K02.m_law), KX, fun s v => b s [v] rfl, fun H a ns hl _ hS => Mi.law_sp K02.law_true H a ns hl hS, fun base _ _ => ?_⟩
    obtain ⟨f2, fd2, G2, F2⟩ := (K02.ok_law (P := (PySem.Challenge.rw_everyscale_k02_whole_meetings_of_segment).prog) (w := w) (base := base) fx).ex
    have e1 := G1.gl.symm.trans G2.gl
    cases e1
    have e2 := Mi.fdEq G1.fn G2.fn
    subst e2
    exact Mi.no_exc F2
