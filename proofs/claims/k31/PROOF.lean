import PyProof.Rows.All
import PySem.Challenge.RW_everyscale_k31_whole_charts_alike_or_par
import Wide.All
import OpenK.AllK
import Wide.FinOn
import HandS.ForMost
import HandS.ForExc
import HandS.Wide
import HandS.WideBits
import HandS.Walk
import HandS.Style
import HandS.TupAny
import HandS.TupMul
import HandS.IsInst
import HandS.Zip
import HandS.Deep
import HandS.NoneIn
import HandS.More
import HandS.Defaults
import HandS.HeadEnd
import HandS.Dict
import HandS.Head0
import HandS.Head1
import HandS.Head2
import HandS.HeadHook1
import HandS.HeadHook2
import HandS.SortInts
import HandS.Sort
import HandS.Conv
import HandS.Text
import HandS.RaiseMore
import KE.KSortTupAny
import HandS.TupSets
import KE.KSortTupG
import HandS.Zip0
import PyProof.ZipIter
import PyProof.CollectWalk
import PyProof.ListNew
import HandS.Strs
import HandS.SetFor
import PyProof.WalksMore
import PyProof.ReprRoads
import PyProof.NeKinds
import KE.KEqDict
import PyProof.Rows.RegStrFacts
import PyProof.StrLawsRepr
set_option Elab.async false
set_option linter.all false
set_option maxRecDepth 100000
set_option maxHeartbeats 0
namespace K31
open PySem PySem.Spec PyProof.Rows L2
def top (i : Nat) : Stmt := PySem.Challenge.pw_everyscale_k31_whole_charts_alike_or_par.main.body.getD i (.Pass ⟨0, 0, 0, 0⟩)
abbrev st_is_int : Stmt := top 4
abbrev st_is_from : Stmt := top 5
abbrev st_is_tuple : Stmt := top 6
abbrev st_is_word : Stmt := top 7
abbrev st_common_part : Stmt := top 9
abbrev st_is_spot_value : Stmt := top 11
abbrev st_lowest_spot : Stmt := top 12
abbrev st_cross : Stmt := top 13
abbrev st_dot : Stmt := top 14
abbrev st_determinant : Stmt := top 17
abbrev st_sees_something : Stmt := top 18
abbrev st_is_chart_value : Stmt := top 19
abbrev st_need_chart : Stmt := top 20
abbrev st_numbers_of : Stmt := top 21
abbrev st_sent_to : Stmt := top 22
abbrev st_parting_spot : Stmt := top 23
abbrev st_judge_charts : Stmt := top 27
abbrev st_charts_holds : Stmt := top 28
abbrev st__law_deck : Stmt := top 30
abbrev st__law_draw : Stmt := top 31
abbrev st__law_pick : Stmt := top 32
abbrev st__law_shuffled : Stmt := top 33
abbrev st__law_far : Stmt := top 34
abbrev st__law_is_bool : Stmt := top 35
abbrev st__law_gcd : Stmt := top 36
abbrev st__law_spot : Stmt := top 37
abbrev st__law_is_int : Stmt := top 38
abbrev st__law_is_spot : Stmt := top 39
abbrev st__law_odd : Stmt := top 40
abbrev st__law_bent : Stmt := top 41
abbrev st__law_number : Stmt := top 42
abbrev st__law_any_spot : Stmt := top 43
abbrev st__law_is_within : Stmt := top 44
abbrev st__law_det : Stmt := top 45
abbrev st__law_is_chart : Stmt := top 46
abbrev st__law_chart : Stmt := top 47
abbrev st__law_numbers : Stmt := top 48
abbrev st__law_sent : Stmt := top 49
abbrev st__law_lowest : Stmt := top 50
abbrev st__law_are_small : Stmt := top 51
abbrev st__law_border_spot : Stmt := top 52
abbrev st__law_are_alike : Stmt := top 53
abbrev st__law_is_paper : Stmt := top 54
abbrev st__law_scaled : Stmt := top 55
abbrev st__law_near_chart : Stmt := top 56
abbrev st__law_things : Stmt := top 57
abbrev st_law : Stmt := top 58
def fn : List He.DefD := [⟨("is_int", none), "is_int", "is_int", defArgs st_is_int, defBody st_is_int, defScope st_is_int, [], []⟩, ⟨("is_from", none), "is_from", "is_from", defArgs st_is_from, defBody st_is_from, defScope st_is_from, [], []⟩, ⟨("is_tuple", none), "is_tuple", "is_tuple", defArgs st_is_tuple, defBody st_is_tuple, defScope st_is_tuple, [], []⟩, ⟨("is_word", none), "is_word", "is_word", defArgs st_is_word, defBody st_is_word, defScope st_is_word, [], []⟩, ⟨("common_part", none), "common_part", "common_part", defArgs st_common_part, defBody st_common_part, defScope st_common_part, [], []⟩, ⟨("is_spot_value", none), "is_spot_value", "is_spot_value", defArgs st_is_spot_value, defBody st_is_spot_value, defScope st_is_spot_value, [], []⟩, ⟨("lowest_spot", none), "lowest_spot", "lowest_spot", defArgs st_lowest_spot, defBody st_lowest_spot, defScope st_lowest_spot, [], []⟩, ⟨("cross", none), "cross", "cross", defArgs st_cross, defBody st_cross, defScope st_cross, [], []⟩, ⟨("dot", none), "dot", "dot", defArgs st_dot, defBody st_dot, defScope st_dot, [], []⟩, ⟨("determinant", none), "determinant", "determinant", defArgs st_determinant, defBody st_determinant, defScope st_determinant, [], []⟩, ⟨("sees_something", none), "sees_something", "sees_something", defArgs st_sees_something, defBody st_sees_something, defScope st_sees_something, [], []⟩, ⟨("is_chart_value", none), "is_chart_value", "is_chart_value", defArgs st_is_chart_value, defBody st_is_chart_value, defScope st_is_chart_value, [], []⟩, ⟨("need_chart", none), "need_chart", "need_chart", defArgs st_need_chart, defBody st_need_chart, defScope st_need_chart, [], []⟩, ⟨("numbers_of", none), "numbers_of", "numbers_of", defArgs st_numbers_of, defBody st_numbers_of, defScope st_numbers_of, [], []⟩, ⟨("sent_to", none), "sent_to", "sent_to", defArgs st_sent_to, defBody st_sent_to, defScope st_sent_to, [], []⟩, ⟨("parting_spot", none), "parting_spot", "parting_spot", defArgs st_parting_spot, defBody st_parting_spot, defScope st_parting_spot, [], []⟩, ⟨("judge_charts", none), "judge_charts", "judge_charts", defArgs st_judge_charts, defBody st_judge_charts, defScope st_judge_charts, [], []⟩, ⟨("charts_holds", none), "charts_holds", "charts_holds", defArgs st_charts_holds, defBody st_charts_holds, defScope st_charts_holds, [], []⟩, ⟨("_law_deck", none), "_law_deck", "_law_deck", defArgs st__law_deck, defBody st__law_deck, defScope st__law_deck, [], []⟩, ⟨("_law_draw", none), "_law_draw", "_law_draw", defArgs st__law_draw, defBody st__law_draw, defScope st__law_draw, [], []⟩, ⟨("_law_pick", none), "_law_pick", "_law_pick", defArgs st__law_pick, defBody st__law_pick, defScope st__law_pick, [], []⟩, ⟨("_law_shuffled", none), "_law_shuffled", "_law_shuffled", defArgs st__law_shuffled, defBody st__law_shuffled, defScope st__law_shuffled, [], []⟩, ⟨("_law_far", none), "_law_far", "_law_far", defArgs st__law_far, defBody st__law_far, defScope st__law_far, [], []⟩, ⟨("_law_is_bool", none), "_law_is_bool", "_law_is_bool", defArgs st__law_is_bool, defBody st__law_is_bool, defScope st__law_is_bool, [], []⟩, ⟨("_law_gcd", none), "_law_gcd", "_law_gcd", defArgs st__law_gcd, defBody st__law_gcd, defScope st__law_gcd, [], []⟩, ⟨("_law_spot", none), "_law_spot", "_law_spot", defArgs st__law_spot, defBody st__law_spot, defScope st__law_spot, [], []⟩, ⟨("_law_is_int", none), "_law_is_int", "_law_is_int", defArgs st__law_is_int, defBody st__law_is_int, defScope st__law_is_int, [], []⟩, ⟨("_law_is_spot", none), "_law_is_spot", "_law_is_spot", defArgs st__law_is_spot, defBody st__law_is_spot, defScope st__law_is_spot, [], []⟩, ⟨("_law_odd", none), "_law_odd", "_law_odd", defArgs st__law_odd, defBody st__law_odd, defScope st__law_odd, [], []⟩, ⟨("_law_bent", none), "_law_bent", "_law_bent", defArgs st__law_bent, defBody st__law_bent, defScope st__law_bent, [], []⟩, ⟨("_law_number", none), "_law_number", "_law_number", defArgs st__law_number, defBody st__law_number, defScope st__law_number, [], []⟩, ⟨("_law_any_spot", none), "_law_any_spot", "_law_any_spot", defArgs st__law_any_spot, defBody st__law_any_spot, defScope st__law_any_spot, [], []⟩, ⟨("_law_is_within", none), "_law_is_within", "_law_is_within", defArgs st__law_is_within, defBody st__law_is_within, defScope st__law_is_within, [], []⟩, ⟨("_law_det", none), "_law_det", "_law_det", defArgs st__law_det, defBody st__law_det, defScope st__law_det, [], []⟩, ⟨("_law_is_chart", none), "_law_is_chart", "_law_is_chart", defArgs st__law_is_chart, defBody st__law_is_chart, defScope st__law_is_chart, [], []⟩, ⟨("_law_chart", none), "_law_chart", "_law_chart", defArgs st__law_chart, defBody st__law_chart, defScope st__law_chart, [], []⟩, ⟨("_law_numbers", none), "_law_numbers", "_law_numbers", defArgs st__law_numbers, defBody st__law_numbers, defScope st__law_numbers, [], []⟩, ⟨("_law_sent", none), "_law_sent", "_law_sent", defArgs st__law_sent, defBody st__law_sent, defScope st__law_sent, [], []⟩, ⟨("_law_lowest", none), "_law_lowest", "_law_lowest", defArgs st__law_lowest, defBody st__law_lowest, defScope st__law_lowest, [], []⟩, ⟨("_law_are_small", none), "_law_are_small", "_law_are_small", defArgs st__law_are_small, defBody st__law_are_small, defScope st__law_are_small, [], []⟩, ⟨("_law_border_spot", none), "_law_border_spot", "_law_border_spot", defArgs st__law_border_spot, defBody st__law_border_spot, defScope st__law_border_spot, [], []⟩, ⟨("_law_are_alike", none), "_law_are_alike", "_law_are_alike", defArgs st__law_are_alike, defBody st__law_are_alike, defScope st__law_are_alike, [], []⟩, ⟨("_law_is_paper", none), "_law_is_paper", "_law_is_paper", defArgs st__law_is_paper, defBody st__law_is_paper, defScope st__law_is_paper, [], []⟩, ⟨("_law_scaled", none), "_law_scaled", "_law_scaled", defArgs st__law_scaled, defBody st__law_scaled, defScope st__law_scaled, [], []⟩, ⟨("_law_near_chart", none), "_law_near_chart", "_law_near_chart", defArgs st__law_near_chart, defBody st__law_near_chart, defScope st__law_near_chart, [], []⟩, ⟨("_law_things", none), "_law_things", "_law_things", defArgs st__law_things, defBody st__law_things, defScope st__law_things, [], []⟩, ⟨("law", none), "law", "law", defArgs st_law, defBody st_law, defScope st_law, [], []⟩]
def fa : List He.Fa := [.glo "is_int", .glo "is_from", .glo "is_tuple", .glo "is_word", .glo "common_part", .glo "is_spot_value", .glo "lowest_spot", .glo "cross", .glo "dot", .glo "determinant", .glo "sees_something", .glo "is_chart_value", .glo "need_chart", .glo "numbers_of", .glo "sent_to", .glo "parting_spot", .glo "judge_charts", .glo "charts_holds", .glo "_law_deck", .glo "_law_draw", .glo "_law_pick", .glo "_law_shuffled", .glo "_law_far", .glo "_law_is_bool", .glo "_law_gcd", .glo "_law_spot", .glo "_law_is_int", .glo "_law_is_spot", .glo "_law_odd", .glo "_law_bent", .glo "_law_number", .glo "_law_any_spot", .glo "_law_is_within", .glo "_law_det", .glo "_law_is_chart", .glo "_law_chart", .glo "_law_numbers", .glo "_law_sent", .glo "_law_lowest", .glo "_law_are_small", .glo "_law_border_spot", .glo "_law_are_alike", .glo "_law_is_paper", .glo "_law_scaled", .glo "_law_near_chart", .glo "_law_things", .glo "law", .free "abs", .free "all", .free "bool", .free "enumerate", .free "int", .free "isinstance", .free "len", .free "list", .free "max", .free "min", .free "range", .free "repr", .free "str", .free "tuple", .free "zip", .str "ALIKE" "alike", .str "PARTED" "parted", .int "SIZE" 3]
end K31
namespace K31F
open PySem PySem.Spec PyProof.Rows L2 K31
def loose0 : List Str := ["MapError", "BadChart", "is_int", "is_from", "is_tuple", "is_word", "common_part", "is_spot_value", "lowest_spot", "cross", "dot", "SIZE", "determinant", "sees_something", "is_chart_value", "need_chart", "numbers_of", "sent_to", "parting_spot", "ALIKE", "PARTED", "judge_charts", "charts_holds", "_law_deck", "_law_draw", "_law_pick", "_law_shuffled", "_law_far", "_law_is_bool", "_law_gcd"]
def loose1 : List Str := ["_law_spot", "_law_is_int", "_law_is_spot", "_law_odd", "_law_bent", "_law_number", "_law_any_spot", "_law_is_within", "_law_det", "_law_is_chart", "_law_chart", "_law_numbers", "_law_sent", "_law_lowest", "_law_are_small", "_law_border_spot", "_law_are_alike", "_law_is_paper", "_law_scaled", "_law_near_chart", "_law_things"]
def loose : List Str := loose0 ++ loose1
abbrev R : PySem.W.OpenRow := PySem.W.OpenLaw.row PySem.Challenge.rw_everyscale_k31_whole_charts_alike_or_par
abbrev hk : PySem.W.Hook := He.hookD 4 fa fn
def ob (s : PySem.W.SharedT) : He.AlD := He.obsDG 4 fa fn (HandSHeadRun.getT s)
theorem ob_eq (s : PySem.W.SharedT) : ob s = hk.obs s.abs := He.obsDG_eq (HandSHeadRun.getT_eq s)
open HandSHeadRun PySem.W PySem.Calls
theorem run12 (w : World) : ∀ os : OsState, (endF (stepQ (denQ tabQ) R.prog w) 14000 R.prog w os).map (fun s => (looksF R.prog (boot_heap w.params) s.abs, seenQ (PySem.W.view R.prog [58]) loose (importedModules R.prog.main.body) (fun s => xlAt (PySem.W.view R.prog [58]) [] s && recOk R.toRowW.records s) s.abs)) = some (true, openGood (PySem.W.view R.prog [58]) loose) := by
  intro os
  kernel_rfl
theorem run3a (w : World) : ∀ os : OsState, (endF (stepQ (denQ tabQ) R.prog w) 14000 R.prog w os).map (fun s => (ob s).1) = some true := by
  intro os
  kernel_rfl
theorem run3b (w : World) : ∀ os : OsState, (endF (stepQ (denQ tabQ) R.prog w) 14000 R.prog w os).map (fun s => (ob s).2) = some (fn.map He.DefD.val) := by
  intro os
  kernel_rfl
theorem map4 {α β γ : Type} {o : Option α} {A : α → β} {B : α → γ} {C : α → He.AlD} {a : β} {b : γ} {c : List _} (h1 : o.map (fun s => (A s, B s)) = some (a, b)) (h2 : o.map (fun s => (C s).1) = some true) (h3 : o.map (fun s => (C s).2) = some c) : o.map (fun s => (A s, B s, C s)) = some (a, b, (true, c)) := by
  cases o with
  | none => cases h1
  | some s =>
    simp only [Option.map_some, Option.some.injEq, Prod.mk.injEq] at *
    exact ⟨h1.1, h1.2, Prod.ext h2 h3⟩
theorem run (w : World) : HandSHeadRun.RunEq R (PySem.W.view R.prog [58]) hk ob 14000 loose w := fun os => map4 (run12 w os) (run3a w os) (run3b w os)

end K31F
set_option Elab.async false
set_option linter.all false
set_option maxRecDepth 100000
set_option maxHeartbeats 4000000
/-! A layer of my own over the hand layer: values as data (tuples and unchanged lists as trees, changing objects as places of a store), readings as programs of a small monad. -/
namespace Mi
open PySem PySem.Spec PyProof.Rows L2

inductive D where
  | non | bl (b : Bool) | int (i : Int) | str (x : Str)
  | tup (l : List D) | lst (l : List D) | wls (l : List D)
  | loc (n : Nat) | gl (a : Addr) | ty (n : String)
  | dic (ks : List Key) (l : List D)
  | ftp (l : List D)
instance : Inhabited D := ⟨.non⟩
inductive O where
  | lst (l : List D) | dct (l : List (Key × D)) | dcT (l : List (List Key × D)) | ins (C : Addr) (l : List (Str × D))
instance : Inhabited O := ⟨.lst []⟩
abbrev Sto := List O
inductive R (α : Type) where
  | ok (a : α) (S : Sto) | exc (C : Addr) (fs : List (Str × D)) (S : Sto) | bad
def R.bind {α β : Type} : R α → (α → Sto → R β) → R β
  | .ok a S, f => f a S
  | .exc C fs S, _ => .exc C fs S
  | .bad, _ => .bad
@[simp] theorem R.bind_ok {α β : Type} {a : α} {S : Sto} {f : α → Sto → R β} : (R.ok a S).bind f = f a S := rfl
@[simp] theorem R.bind_exc {α β : Type} {C fs S} {f : α → Sto → R β} : (R.exc C fs S : R α).bind f = .exc C fs S := rfl
@[simp] theorem R.bind_bad {α β : Type} {f : α → Sto → R β} : (R.bad : R α).bind f = .bad := rfl
def R.of {α : Type} : Option α → Sto → R α
  | some a, S => .ok a S
  | none, _ => .bad
@[simp] theorem R.of_some {α : Type} {a : α} {S : Sto} : R.of (some a) S = .ok a S := rfl
@[simp] theorem R.of_none {α : Type} {S : Sto} : R.of (none : Option α) S = .bad := rfl
abbrev En := List (Option D)
/-- the places of the store; pv: lists that are just being built -/
structure Rho where
  m : Nat → Option Addr
  pv : Addr → Prop
def Rho.no (ρ : Rho) (a : Addr) : Prop := (∀ n, ρ.m n ≠ some a) ∧ ¬ ρ.pv a

/-! ### what a datum stands for -/
def WLs (K : PySem.W.Frag) (H : Hp) (a : Addr) (xs : List V) : Prop :=
  (∃ o, H a = some (.frz o (.lst xs))) ∨ ∃ (o : Obj) (its : Array Value) (n : Nat), K.lookup a = some o ∧ o.cls = .type "list" ∧ o.dict = none ∧ o.data = .seq its n ∧ its.size ≤ sizeLine ∧ Vals xs its.toList
theorem WLs.sq {K : PySem.W.Frag} {H : Hp} {a : Addr} {xs : List V} (h : WLs K H a xs) : SqL K H a xs := by
  rcases h with h | h
  · exact .inl (.inr h)
  · exact .inr h
def TLs (K : PySem.W.Frag) (H : Hp) (a : Addr) (xs : List V) : Prop :=
  H a = some (.tup xs) ∨ (∃ o, H a = some (.frz o (.tup xs)) ∧ ∀ n, V.ty n ∉ xs) ∨ ∃ (o : Obj) (its : Array Value) (n : Nat), K.lookup a = some o ∧ o.cls = .type "tuple" ∧ o.data = .seq its n ∧ its.size ≤ sizeLine ∧ Vals xs its.toList
/-- a tuple that is known to have no dict of its own -/
def FTs (H : Hp) (a : Addr) (xs : List V) : Prop := ∃ o, H a = some (.frz o (.tup xs)) ∧ o.dict = none ∧ ∀ n, V.ty n ∉ xs
theorem TLs.sq {K : PySem.W.Frag} {H : Hp} {a : Addr} {xs : List V} (h : TLs K H a xs) : SqT K H a xs := by
  rcases h with h | ⟨o, h, _⟩ | h
  · exact .inl (.inl h)
  · exact .inl (.inr ⟨o, h⟩)
  · exact .inr h
theorem FTs.tls {K : PySem.W.Frag} {H : Hp} {a : Addr} {xs : List V} (h : FTs H a xs) : TLs K H a xs := by
  obtain ⟨o, h, _, ht⟩ := h
  exact .inr (.inl ⟨o, h, ht⟩)
mutual
def Rp (K : PySem.W.Frag) (ρ : Rho) (H : Hp) : D → V → Prop
  | .non, v => v = .non
  | .bl b, v => v = .bl b
  | .int i, v => v = .int i
  | .str x, v => v = .str x
  | .tup l, v => ∃ p vs, v = .ref p ∧ TLs K H p vs ∧ Rps K ρ H l vs
  | .lst l, v => ∃ p vs, v = .ref p ∧ H p = some (.lst vs) ∧ ρ.no p ∧ Rps K ρ H l vs
  | .wls l, v => ∃ p vs, v = .ref p ∧ WLs K H p vs ∧ Rps K ρ H l vs
  | .loc n, v => ∃ a, v = .ref a ∧ ρ.m n = some a
  | .gl a, v => v = .ref a
  | .ty n, v => v = .ty n
  | .dic ks l, v => ∃ p vs, v = .ref p ∧ H p = some (.dK (ks.zip vs)) ∧ ks.length = l.length ∧ ρ.no p ∧ Rps K ρ H l vs
  | .ftp l, v => ∃ p vs, v = .ref p ∧ FTs H p vs ∧ Rps K ρ H l vs
def Rps (K : PySem.W.Frag) (ρ : Rho) (H : Hp) : List D → List V → Prop
  | [], vs => vs = []
  | d :: ds, vs => ∃ v r, vs = v :: r ∧ Rp K ρ H d v ∧ Rps K ρ H ds r
end
/-- what may change -/
def Mk : HO → Prop
  | .lst _ => True
  | .dK _ => True
  | .dT _ => True
  | .ins _ _ _ => True
  | .set _ _ => True
  | _ => False
def KVs {κ : Type} (K : PySem.W.Frag) (ρ : Rho) (H : Hp) : List (κ × D) → List (κ × V) → Prop
  | [], vs => vs = []
  | d :: ds, vs => ∃ v r, vs = (d.1, v) :: r ∧ Rp K ρ H d.2 v ∧ KVs K ρ H ds r
def OOk (K : PySem.W.Frag) (ρ : Rho) (H : Hp) (a : Addr) : O → Prop
  | .lst l => ∃ vs, H a = some (.lst vs) ∧ Rps K ρ H l vs
  | .dct l => ∃ vs, H a = some (.dK vs) ∧ KVs K ρ H l vs
  | .dcT l => ∃ vs, H a = some (.dT vs) ∧ KVs K ρ H l vs
  | .ins C l => ∃ dx vs, H a = some (.ins C dx vs) ∧ KVs K ρ H l vs
structure SOk (K : PySem.W.Frag) (ρ : Rho) (S : Sto) (H : Hp) : Prop where
  inj : ∀ n m a, ρ.m n = some a → ρ.m m = some a → n = m
  dom : ∀ n a, ρ.m n = some a → n < S.length
  obj : ∀ n o, S[n]? = some o → ∃ a, ρ.m n = some a ∧ OOk K ρ H a o
  prv : ∀ a, ρ.pv a → (∃ o, H a = some o ∧ Mk o) ∧ ∀ n, ρ.m n ≠ some a
structure Stp (ρ ρ' : Rho) (H H' : Hp) : Prop where
  up : ∀ n a, ρ.m n = some a → ρ'.m n = some a
  new : ∀ n a, ρ'.m n = some a → ρ.m n = some a ∨ H a = none
  pv : ∀ a, ρ'.pv a → ρ.pv a ∨ H a = none
  pvu : ∀ a, ρ.pv a → ρ'.pv a
  keep : ∀ a o, H a = some o → (∀ n, ρ.m n ≠ some a) → H' a = some o
  live : ∀ a, H' a = none → H a = none
structure EOk (K : PySem.W.Frag) (ρ : Rho) (H : Hp) (env : En) (σ : List (Option V)) : Prop where
  len : env.length = σ.length
  val : ∀ (i : Nat) (d : D), env[i]? = some (some d) → ∃ v : V, σ[i]? = some (some v) ∧ Rp K ρ H d v
section
variable {K : PySem.W.Frag} {ρ ρ' ρ'' : Rho} {S S' : Sto} {H H' H'' : Hp} {env : En} {σ : L2.St}
theorem SOk.mk' (h : SOk K ρ S H) {n : Nat} {a : Addr} (e : ρ.m n = some a) : ∃ o, H a = some o ∧ Mk o := by
  have hl := h.dom n a e
  obtain ⟨b, hb, ok⟩ := h.obj n S[n] (by simp [hl])
  rw [e] at hb; cases hb
  generalize S[n] = o at ok
  cases o with
  | lst l => obtain ⟨vs, h1, _⟩ := ok; exact ⟨_, h1, trivial⟩
  | dct l => obtain ⟨vs, h1, _⟩ := ok; exact ⟨_, h1, trivial⟩
  | dcT l => obtain ⟨vs, h1, _⟩ := ok; exact ⟨_, h1, trivial⟩
  | ins C l => obtain ⟨dx, vs, h1, _⟩ := ok; exact ⟨_, h1, trivial⟩
theorem SOk.get (h : SOk K ρ S H) {n : Nat} {a : Addr} (e : ρ.m n = some a) : ∃ o, S[n]? = some o ∧ OOk K ρ H a o := by
  have hl := h.dom n a e
  obtain ⟨b, hb, ok⟩ := h.obj n S[n] (by simp [hl])
  rw [e] at hb; cases hb
  exact ⟨_, by simp [hl], ok⟩
theorem Stp.refl : Stp ρ ρ H H := ⟨fun _ _ h => h, fun _ _ h => .inl h, fun _ h => .inl h, fun _ h => h, fun _ _ h _ => h, fun _ h => h⟩
theorem Stp.trans (a : Stp ρ ρ' H H') (b : Stp ρ' ρ'' H' H'') : Stp ρ ρ'' H H'' where
  up n x h := b.up n x (a.up n x h)
  new n x h := by
    rcases b.new n x h with h | h
    · exact a.new n x h
    · exact .inr (a.live x h)
  pv x h := by
    rcases b.pv x h with h | h
    · exact a.pv x h
    · exact .inr (a.live x h)
  pvu x h := b.pvu x (a.pvu x h)
  keep x o h hn := by
    have h1 := a.keep x o h hn
    refine b.keep x o h1 fun n z => ?_
    rcases a.new n x z with q | q
    · exact hn n q
    · rw [h] at q; cases q
  live x h := a.live x (b.live x h)
theorem upd_live {p : Addr} {o : HO} {a : Addr} (h : upd H p o a = none) : H a = none := by
  by_cases e : a = p
  · subst e; rw [upd_same] at h; cases h
  · rw [upd_ne e] at h; exact h
/-- a new object that is not tracked as one that changes -/
theorem Stp.alloc {p : Addr} {o : HO} (hp : H p = none) : Stp ρ ρ H (upd H p o) where
  up _ _ h := h
  new _ _ h := .inl h
  pv _ h := .inl h
  pvu _ h := h
  keep a u h _ := by rw [upd_ne (ne_of_none h hp)]; exact h
  live a h := upd_live h
/-- what cannot change is none of the changing objects -/
theorem SOk.no (h : SOk K ρ S H) {b : Addr} {o : HO} (hb : H b = some o) (hm : ¬ Mk o) : ρ.no b := by
  refine ⟨fun n e => ?_, fun e => ?_⟩
  · obtain ⟨u, h1, h2⟩ := h.mk' e
    rw [hb] at h1; cases h1; exact hm h2
  · obtain ⟨⟨u, h1, h2⟩, _⟩ := h.prv b e
    rw [hb] at h1; cases h1; exact hm h2
theorem SOk.noN (h : SOk K ρ S H) {b : Addr} (hb : H b = none) : ρ.no b := by
  refine ⟨fun n e => ?_, fun e => ?_⟩
  · obtain ⟨u, h1, h2⟩ := h.mk' e
    rw [hb] at h1; cases h1
  · obtain ⟨⟨u, h1, h2⟩, _⟩ := h.prv b e
    rw [hb] at h1; cases h1
theorem Stp.tls {p : Addr} {vs : List V} (hS : SOk K ρ S H) (st : Stp ρ ρ' H H') (h : TLs K H p vs) : TLs K H' p vs := by
  rcases h with h | ⟨o, h, ht⟩ | h
  · exact .inl (st.keep _ _ h (hS.no h (fun z => z)).1)
  · exact .inr (.inl ⟨o, st.keep _ _ h (hS.no h (fun z => z)).1, ht⟩)
  · exact .inr (.inr h)
theorem Stp.fts {p : Addr} {vs : List V} (hS : SOk K ρ S H) (st : Stp ρ ρ' H H') (h : FTs H p vs) : FTs H' p vs := by
  obtain ⟨o, h, hd⟩ := h
  exact ⟨o, st.keep _ _ h (hS.no h (fun z => z)).1, hd⟩
theorem Stp.wls {p : Addr} {vs : List V} (hS : SOk K ρ S H) (st : Stp ρ ρ' H H') (h : WLs K H p vs) : WLs K H' p vs := by
  rcases h with ⟨o, h⟩ | h
  · exact .inl ⟨o, st.keep _ _ h (hS.no h (fun z => z)).1⟩
  · exact .inr h
theorem Stp.no {p : Addr} {o : HO} (st : Stp ρ ρ' H H') (hp : H p = some o) (h : ρ.no p) : ρ'.no p := by
  refine ⟨fun n z => ?_, fun z => ?_⟩
  · rcases st.new n p z with q | q
    · exact h.1 n q
    · rw [hp] at q; cases q
  · rcases st.pv p z with q | q
    · exact h.2 q
    · rw [hp] at q; cases q
mutual
theorem Rp.step (hS : SOk K ρ S H) (st : Stp ρ ρ' H H') : ∀ (d : D) (v : V), Rp K ρ H d v → Rp K ρ' H' d v
  | .non, v, h => h
  | .bl b, v, h => h
  | .int i, v, h => h
  | .str x, v, h => h
  | .tup l, v, h => by
    obtain ⟨p, vs, e, h1, h2⟩ := h
    exact ⟨p, vs, e, st.tls hS h1, Rps.step hS st l vs h2⟩
  | .lst l, v, h => by
    obtain ⟨p, vs, e, h1, h2, h3⟩ := h
    exact ⟨p, vs, e, st.keep _ _ h1 h2.1, st.no h1 h2, Rps.step hS st l vs h3⟩
  | .wls l, v, h => by
    obtain ⟨p, vs, e, h1, h2⟩ := h
    exact ⟨p, vs, e, st.wls hS h1, Rps.step hS st l vs h2⟩
  | .loc n, v, h => by
    obtain ⟨a, e, h1⟩ := h
    exact ⟨a, e, st.up n a h1⟩
  | .gl a, v, h => h
  | .ty n, v, h => h
  | .dic ks l, v, h => by
    obtain ⟨p, vs, e, h1, hl, h2, h3⟩ := h
    exact ⟨p, vs, e, st.keep _ _ h1 h2.1, hl, st.no h1 h2, Rps.step hS st l vs h3⟩
  | .ftp l, v, h => by
    obtain ⟨p, vs, e, h1, h2⟩ := h
    exact ⟨p, vs, e, st.fts hS h1, Rps.step hS st l vs h2⟩
theorem Rps.step (hS : SOk K ρ S H) (st : Stp ρ ρ' H H') : ∀ (ds : List D) (vs : List V), Rps K ρ H ds vs → Rps K ρ' H' ds vs
  | [], vs, h => h
  | d :: ds, vs, h => by
    obtain ⟨v, r, e, h1, h2⟩ := h
    exact ⟨v, r, e, Rp.step hS st d v h1, Rps.step hS st ds r h2⟩
end
theorem EOk.step (hS : SOk K ρ S H) (st : Stp ρ ρ' H H') (h : EOk K ρ H env σ) : EOk K ρ' H' env σ :=
  ⟨h.len, fun i d e => by
    obtain ⟨v, h1, h2⟩ := h.val i d e
    exact ⟨v, h1, Rp.step hS st d v h2⟩⟩
end
/-! ### ends -/
abbrev Rel (α β : Type) := Rho → Hp → α → β → Prop
def Post {α β : Type} (K : PySem.W.Frag) (W : WX) (rel : Rel α β) (ρ : Rho) (H : Hp) (σ : L2.St) (r : R α) (Q : β → Hp → Prop) : Prop :=
  match r with
  | .ok a S' => ∀ ρ' H' v, SOk K ρ' S' H' → Stp ρ ρ' H H' → rel ρ' H' a v → Q v H'
  | .exc C fs S' => ∀ ρ' H' d vs, SOk K ρ' S' H' → Stp ρ ρ' H H' → ρ'.no d → H' d = some (.xd vs) → KVs K ρ' H' fs vs → W (.ref C) (some d) σ H'
  | .bad => False
def tG {α β : Type} (K : PySem.W.Frag) (W : WX) (rel : Rel α β) (m : En → Sto → R α) : L2.St → Hp → (β → Hp → Prop) → Prop := fun σ H Q =>
  ∃ ρ S env, SOk K ρ S H ∧ EOk K ρ H env σ ∧ Post K W rel ρ H σ (m env S) Q
section
variable {K : PySem.W.Frag} {W : WX} {ρ ρ' ρ'' : Rho} {S S' : Sto} {H H' H'' : Hp} {env : En} {σ : L2.St} {α β γ δ : Type}
theorem Post.step {rel : Rel α β} {r : R α} {Q : β → Hp → Prop} (st : Stp ρ ρ' H H') (h : Post K W rel ρ H σ r Q) : Post K W rel ρ' H' σ r Q := by
  cases r with
  | ok a S1 => exact fun ρ2 H2 v h1 h2 h3 => h ρ2 H2 v h1 (st.trans h2) h3
  | exc C fs S1 => exact fun ρ2 H2 d vs h1 h2 h3 h4 h5 => h ρ2 H2 d vs h1 (st.trans h2) h3 h4 h5
  | bad => exact h
theorem Post.mono {rel : Rel α β} {r : R α} {Q Q' : β → Hp → Prop} (h : Post K W rel ρ H σ r Q) (hq : ∀ v H', Q v H' → Q' v H') : Post K W rel ρ H σ r Q' := by
  cases r with
  | ok a S1 => exact fun ρ2 H2 v h1 h2 h3 => hq _ _ (h ρ2 H2 v h1 h2 h3)
  | exc C fs S1 => exact h
  | bad => exact h
/-- one reading ahead of another one -/
theorem Post.bind {rel : Rel α β} {rel2 : Rel γ δ} {m : En → Sto → R α} {g : α → Sto → R γ} {Q : δ → Hp → Prop} (hS : SOk K ρ S H) (hE : EOk K ρ H env σ)
    (h : Post K W rel2 ρ H σ ((m env S).bind g) Q) :
    tG K W rel m σ H fun v H1 => ∃ ρ1 S1 a, SOk K ρ1 S1 H1 ∧ EOk K ρ1 H1 env σ ∧ Stp ρ ρ1 H H1 ∧ rel ρ1 H1 a v ∧ Post K W rel2 ρ1 H1 σ (g a S1) Q := by
  refine ⟨ρ, S, env, hS, hE, ?_⟩
  revert h
  generalize m env S = r
  intro h
  cases r with
  | ok a S1 => exact fun ρ2 H2 v h1 h2 h3 => ⟨ρ2, S1, a, h1, hE.step hS h2, h2, h3, h.step h2⟩
  | exc C fs S1 => exact h
  | bad => exact h
theorem tG.mono {rel : Rel α β} {m : En → Sto → R α} {Q Q' : β → Hp → Prop} (h : tG K W rel m σ H Q) (hq : ∀ v H', Q v H' → Q' v H') : tG K W rel m σ H Q' := by
  obtain ⟨ρ, S, env, h1, h2, h3⟩ := h
  exact ⟨ρ, S, env, h1, h2, h3.mono hq⟩
theorem Post.bindK {rel : Rel α β} {rel2 : Rel γ δ} {m : En → Sto → R α} {g : α → Sto → R γ} {Q : δ → Hp → Prop} {Q1 : β → Hp → Prop} (hS : SOk K ρ S H) (hE : EOk K ρ H env σ)
    (h : Post K W rel2 ρ H σ ((m env S).bind g) Q)
    (k : ∀ v H1 ρ1 S1 a, SOk K ρ1 S1 H1 → EOk K ρ1 H1 env σ → Stp ρ ρ1 H H1 → rel ρ1 H1 a v → Post K W rel2 ρ1 H1 σ (g a S1) Q → Q1 v H1) :
    tG K W rel m σ H Q1 := (Post.bind hS hE h).mono fun v H1 ⟨ρ1, S1, a, h1, h2, h3, h4, h5⟩ => k v H1 ρ1 S1 a h1 h2 h3 h4 h5
end
abbrev TM := En → Sto → R D
abbrev BM := En → Sto → R Bool
abbrev AM := En → Sto → R (List D)
def relB : Rel Bool Bool := fun _ _ b c => b = c
abbrev tE (K : PySem.W.Frag) (W : WX) (m : TM) : TE := tG K W (Rp K) m
abbrev tT (K : PySem.W.Frag) (W : WX) (m : BM) : TT := tG K W relB m
abbrev tA (K : PySem.W.Frag) (W : WX) (m : AM) : TA := tG K W (Rps K) m
structure DE (X : Cx) (W : WX) (e : Expr) (m : TM) : Prop where
  p : PE X e (tE X.K W m)
structure DT (X : Cx) (W : WX) (e : Expr) (m : BM) : Prop where
  p : PT X e (tT X.K W m)
structure DA (X : Cx) (W : WX) (es : List Expr) (m : AM) : Prop where
  p : PA X es (tA X.K W m)
theorem PE.imp {X : Cx} {e : Expr} {t t' : TE} (h : PE X e t) (i : ∀ σ H Q, t' σ H Q → t σ H Q) : PE X e t' := ⟨fun pins s σ H Q I q => h.run pins s σ H Q I (i σ H Q q)⟩
theorem PT.imp {X : Cx} {e : Expr} {t t' : TT} (h : PT X e t) (i : ∀ σ H Q, t' σ H Q → t σ H Q) : PT X e t' := ⟨fun pins s σ H Q I q => h.run pins s σ H Q I (i σ H Q q)⟩
theorem PW.imp {X : Cx} {e : Expr} {t t' : TT} (h : PW X e t) (i : ∀ σ H Q, t' σ H Q → t σ H Q) : PW X e t' := ⟨fun wh pins s σ H Q I q => h.run wh pins s σ H Q I (i σ H Q q)⟩
theorem PA.imp {X : Cx} {e : List Expr} {t t' : TA} (h : PA X e t) (i : ∀ σ H Q, t' σ H Q → t σ H Q) : PA X e t' := ⟨fun pos pins s σ H Q I q => h.run pos pins s σ H Q I (i σ H Q q)⟩
theorem PS.imp {X : Cx} {e : Stmt} {t t' : TS} (h : PS X e t) (i : ∀ D σ H, t' D σ H → t D σ H) : PS X e t' := ⟨fun pins s σ H D I q => h.run pins s σ H D I (i D σ H q)⟩
theorem PSs.imp {X : Cx} {e : List Stmt} {t t' : TS} (h : PSs X e t) (i : ∀ D σ H, t' D σ H → t D σ H) : PSs X e t' := ⟨fun pins s σ H D I q => h.run pins s σ H D I (i D σ H q)⟩

/-! ### names, constants -/
def mVar (i : Nat) : TM := fun env S => match env[i]? with
  | some (some d) => .ok d S
  | _ => .bad
def mC (d : D) : TM := fun _ S => .ok d S
section
variable {X : Cx} {W : WX} {a b c : Expr} {ma mb mc : TM} {pos : Pos}
theorem d_var {i : Nat} {x : Str} (hN : X.N[i]? = some x) (hv : Vis X.env.scope x) (hd : (x == ("__debug__" : Str)) = false := by decide) (hcd : (x == ("__classdict__" : Str)) = false := by decide) : DE X W (.Name x pos) (mVar i) := by
  refine ⟨PE.imp (pe_var hN hv hd hcd) fun σ H Q ⟨ρ, S, env, hS, hE, h⟩ => ?_⟩
  unfold mVar at h
  split at h
  · rename_i d e
    obtain ⟨v, e1, r⟩ := hE.val i d e
    exact ⟨v, e1, h ρ H v hS .refl r⟩
  · exact h.elim
theorem d_int {i : Int} {k : Nat} : DE X W (.Constant (.int i) k pos) (mC (.int i)) := ⟨PE.imp pe_int fun σ H Q ⟨ρ, S, env, hS, hE, h⟩ => h ρ H (.int i) hS .refl rfl⟩
theorem d_str {i : Str} {k : Nat} : DE X W (.Constant (.str i) k pos) (mC (.str i)) := ⟨PE.imp pe_str fun σ H Q ⟨ρ, S, env, hS, hE, h⟩ => h ρ H (.str i) hS .refl rfl⟩
theorem d_bl {i : Bool} {k : Nat} : DE X W (.Constant (.bool i) k pos) (mC (.bl i)) := ⟨PE.imp pe_bl fun σ H Q ⟨ρ, S, env, hS, hE, h⟩ => h ρ H (.bl i) hS .refl rfl⟩
theorem d_non {k : Nat} : DE X W (.Constant .none k pos) (mC .non) := ⟨PE.imp pe_non fun σ H Q ⟨ρ, S, env, hS, hE, h⟩ => h ρ H .non hS .refl rfl⟩
end

/-! ### operators, by values -/
abbrev G2 := Sto → D → D → Option D
abbrev G1 := Sto → D → Option D
def rD (K : PySem.W.Frag) (g : G2) : R2 := fun x y H Q => ∃ ρ S a b z, SOk K ρ S H ∧ Rp K ρ H a x ∧ Rp K ρ H b y ∧ g S a b = some z ∧
  ∀ ρ' H' v, SOk K ρ' S H' → Stp ρ ρ' H H' → Rp K ρ' H' z v → Q v H'
def rD1 (K : PySem.W.Frag) (g : G1) : V → Hp → VK → Prop := fun x H Q => ∃ ρ S a z, SOk K ρ S H ∧ Rp K ρ H a x ∧ g S a = some z ∧
  ∀ ρ' H' v, SOk K ρ' S H' → Stp ρ ρ' H H' → Rp K ρ' H' z v → Q v H'
def mOp (g : G2) (ma mb : TM) : TM := fun env S => (ma env S).bind fun a S1 => (mb env S1).bind fun b S2 => R.of (g S2 a b) S2
def mUn (g : G1) (ma : TM) : TM := fun env S => (ma env S).bind fun a S1 => R.of (g S1 a) S1
section
variable {X : Cx} {W : WX} {a b c : Expr} {ma mb mc : TM} {pos : Pos}
theorem of_op {K : PySem.W.Frag} {g : G2} {σ : L2.St} {H : Hp} {Q : VK} (h : tE K W (mOp g ma mb) σ H Q) : tOp (rD K g) (tE K W ma) (tE K W mb) σ H Q := by
  obtain ⟨ρ, S, env, hS, hE, h⟩ := h
  refine Post.bindK hS hE h fun x H1 ρ1 S1 d1 hS1 hE1 st1 r1 h1 => ?_
  refine Post.bindK hS1 hE1 h1 fun y H2 ρ2 S2 d2 hS2 hE2 st2 r2 h2 => ?_
  have r1' := r1.step hS1 st2
  cases e : g S2 d1 d2 with
  | none => rw [e] at h2; exact h2.elim
  | some z =>
    rw [e] at h2
    exact ⟨ρ2, S2, d1, d2, z, hS2, r1', r2, e, h2⟩
theorem of_un {K : PySem.W.Frag} {g : G1} {σ : L2.St} {H : Hp} {Q : VK} (h : tE K W (mUn g ma) σ H Q) : tUn (rD1 K g) (tE K W ma) σ H Q := by
  obtain ⟨ρ, S, env, hS, hE, h⟩ := h
  refine Post.bindK hS hE h fun x H1 ρ1 S1 d1 hS1 hE1 st1 r1 h1 => ?_
  cases e : g S1 d1 with
  | none => rw [e] at h1; exact h1.elim
  | some z =>
    rw [e] at h1
    exact ⟨ρ1, S1, d1, z, hS1, r1, e, h1⟩
theorem d_bin {op : Operator} {g : G2} (ho : OpR X (binaryOp op) (rD X.K g)) (ha : DE X W a ma) (hb : DE X W b mb) : DE X W (.BinOp a op b pos) (mOp g ma mb) :=
  ⟨PE.imp (pe_op ho ha.p hb.p) fun σ H Q h => of_op h⟩
theorem d_un {op : UnaryOp} {g : G1} (ho : UnR X (unaryOp op) (rD1 X.K g)) (ha : DE X W a ma) : DE X W (.UnaryOp op a pos) (mUn g ma) :=
  ⟨PE.imp (pe_un ho ha.p) fun σ H Q h => of_un h⟩
theorem d_cmp {op : CmpOp} {g : G2} (ho : OpR X (compareOp op) (rD X.K g)) (ha : DE X W a ma) (hb : DE X W b mb) (hm : behindInMarks op b = false) : DE X W (.Compare a [op] [b] pos) (mOp g ma mb) :=
  ⟨PE.imp (pe_cmpR ho ha.p hb.p hm) fun σ H Q h => of_op h⟩
end
end Mi

namespace Mi
open PySem PySem.Spec PyProof.Rows L2
section
variable {K : PySem.W.Frag} {ρ ρ' : Rho} {S S' : Sto} {H H' : Hp}
theorem Rps.length : ∀ {ds : List D} {vs : List V}, Rps K ρ H ds vs → ds.length = vs.length
  | [], _, h => by cases h; rfl
  | d :: ds, _, h => by obtain ⟨v, r, rfl, _, h2⟩ := h; simp [Rps.length h2]
theorem Rps.get : ∀ {ds : List D} {vs : List V} {i : Nat} {d : D}, Rps K ρ H ds vs → ds[i]? = some d → ∃ v, vs[i]? = some v ∧ Rp K ρ H d v
  | [], _, _, _, _, e => by simp at e
  | d :: ds, _, 0, x, h, e => by obtain ⟨v, r, rfl, h1, _⟩ := h; simp at e; subst e; exact ⟨v, rfl, h1⟩
  | d :: ds, _, i + 1, x, h, e => by
    obtain ⟨v, r, rfl, _, h2⟩ := h
    obtain ⟨w, h3, h4⟩ := Rps.get (i := i) h2 (by simpa using e)
    exact ⟨w, by simpa using h3, h4⟩
theorem Rps.append : ∀ {ds es : List D} {vs ws : List V}, Rps K ρ H ds vs → Rps K ρ H es ws → Rps K ρ H (ds ++ es) (vs ++ ws)
  | [], _, _, _, h, k => by cases h; exact k
  | d :: ds, _, _, _, h, k => by obtain ⟨v, r, rfl, h1, h2⟩ := h; exact ⟨v, _, rfl, h1, Rps.append h2 k⟩
theorem Rps.drop : ∀ {ds : List D} {vs : List V} (n : Nat), Rps K ρ H ds vs → Rps K ρ H (ds.drop n) (vs.drop n)
  | _, _, 0, h => h
  | [], _, n + 1, h => by cases h; rfl
  | d :: ds, _, n + 1, h => by obtain ⟨v, r, rfl, h1, h2⟩ := h; exact Rps.drop n h2
theorem Rps.take : ∀ {ds : List D} {vs : List V} (n : Nat), Rps K ρ H ds vs → Rps K ρ H (ds.take n) (vs.take n)
  | _, _, 0, h => rfl
  | [], _, n + 1, h => by cases h; rfl
  | d :: ds, _, n + 1, h => by obtain ⟨v, r, rfl, h1, h2⟩ := h; exact ⟨v, _, rfl, h1, Rps.take n h2⟩
theorem Rps.nil_iff {ds : List D} {vs : List V} (h : Rps K ρ H ds vs) : ds = [] ↔ vs = [] := by
  cases ds with
  | nil => cases h; simp
  | cons d ds => obtain ⟨v, r, rfl, _⟩ := h; simp
theorem Rps.set : ∀ {ds : List D} {vs : List V} (i : Nat) {d : D} {v : V}, Rps K ρ H ds vs → Rp K ρ H d v → Rps K ρ H (ds.set i d) (vs.set i v)
  | [], _, _, _, _, h, k => by cases h; rfl
  | d :: ds, _, 0, _, _, h, k => by obtain ⟨v, r, rfl, h1, h2⟩ := h; exact ⟨_, _, rfl, k, h2⟩
  | d :: ds, _, i + 1, _, _, h, k => by obtain ⟨v, r, rfl, h1, h2⟩ := h; exact ⟨_, _, rfl, h1, Rps.set i h2 k⟩
theorem SOk.alloc {p : Addr} {o : HO} (hS : SOk K ρ S H) (hp : H p = none) : SOk K ρ S (upd H p o) := by
  have st : Stp ρ ρ H (upd H p o) := .alloc hp
  have kv : ∀ {κ : Type} (l : List (κ × D)) (vs : List (κ × V)), KVs K ρ H l vs → KVs K ρ (upd H p o) l vs := by
    intro κ l
    induction l with
    | nil => intro vs h; exact h
    | cons d ds ih => intro vs h; obtain ⟨v, r, e, h1, h2⟩ := h; exact ⟨v, r, e, Rp.step hS st _ _ h1, ih r h2⟩
  refine ⟨hS.inj, hS.dom, fun n o' e => ?_, fun a h => ?_⟩
  · obtain ⟨a, ha, ok⟩ := hS.obj n o' e
    refine ⟨a, ha, ?_⟩
    cases o' with
    | lst l => obtain ⟨vs, h1, h2⟩ := ok; exact ⟨vs, by rw [upd_ne (ne_of_none h1 hp)]; exact h1, Rps.step hS st l vs h2⟩
    | dct l => obtain ⟨vs, h1, h2⟩ := ok; exact ⟨vs, by rw [upd_ne (ne_of_none h1 hp)]; exact h1, kv l vs h2⟩
    | dcT l => obtain ⟨vs, h1, h2⟩ := ok; exact ⟨vs, by rw [upd_ne (ne_of_none h1 hp)]; exact h1, kv l vs h2⟩
    | ins C l => obtain ⟨dx, vs, h1, h2⟩ := ok; exact ⟨dx, vs, by rw [upd_ne (ne_of_none h1 hp)]; exact h1, kv l vs h2⟩
  · obtain ⟨⟨u, h1, h2⟩, h3⟩ := hS.prv a h
    exact ⟨⟨u, by rw [upd_ne (ne_of_none h1 hp)]; exact h1, h2⟩, h3⟩
/-- a new tuple, a new list -/
theorem new_tup {p : Addr} {l : List D} {vs : List V} {Q : VK} (hS : SOk K ρ S H) (r : Rps K ρ H l vs) (hp : H p = none)
    (h : ∀ ρ' H' v, SOk K ρ' S H' → Stp ρ ρ' H H' → Rp K ρ' H' (.tup l) v → Q v H') : Q (.ref p) (upd H p (.tup vs)) :=
  h ρ _ (.ref p) (hS.alloc hp) (.alloc hp) ⟨p, vs, rfl, .inl upd_same, Rps.step hS (.alloc hp) l vs r⟩
theorem new_lst {p : Addr} {l : List D} {vs : List V} {Q : VK} (hS : SOk K ρ S H) (r : Rps K ρ H l vs) (hp : H p = none)
    (h : ∀ ρ' H' v, SOk K ρ' S H' → Stp ρ ρ' H H' → Rp K ρ' H' (.lst l) v → Q v H') : Q (.ref p) (upd H p (.lst vs)) :=
  h ρ _ (.ref p) (hS.alloc hp) (.alloc hp) ⟨p, vs, rfl, upd_same, hS.noN hp, Rps.step hS (.alloc hp) l vs r⟩
end

/-! ### sizes -/
def Sm (n : Nat) (i : Int) : Prop := i.natAbs < 2 ^ n
noncomputable instance {n : Nat} {i : Int} : Decidable (Sm n i) := Classical.propDecidable _
theorem Sm.le {n m : Nat} {i : Int} (h : Sm n i) (hn : n ≤ m) : Sm m i := Nat.lt_of_lt_of_le h (Nat.pow_le_pow_right (by decide) hn)
theorem Sm.mul {n m : Nat} {i j : Int} (h : Sm n i) (k : Sm m j) : Sm (n + m) (i * j) := wide_lt h k
theorem Sm.add {n m : Nat} {i j : Int} (h : Sm n i) (k : Sm m j) : Sm (n + m + 1) (i + j) := by
  have h' : i.natAbs < 2 ^ n := h
  have k' : j.natAbs < 2 ^ m := k
  have e1 : 2 ^ n ≤ 2 ^ (n + m) := Nat.pow_le_pow_right (by decide) (by omega)
  have e2 : 2 ^ m ≤ 2 ^ (n + m) := Nat.pow_le_pow_right (by decide) (by omega)
  show (i + j).natAbs < 2 ^ (n + m + 1)
  rw [Nat.pow_succ]; omega
theorem Sm.neg {n : Nat} {i : Int} (h : Sm n i) : Sm n (-i) := by
  show (-i).natAbs < _; rw [Int.natAbs_neg]; exact h
theorem Sm.sub {n m : Nat} {i j : Int} (h : Sm n i) (k : Sm m j) : Sm (n + m + 1) (i - j) := by
  rw [Int.sub_eq_add_neg]; exact h.add k.neg
theorem Sm.of_le {n : Nat} {i j : Int} (h : Sm n j) (k : i.natAbs ≤ j.natAbs) : Sm n i := Nat.lt_of_le_of_lt k h

/-! ### operators -/
def addD : G2 := fun S a b => match a, b with
  | .int i, .int j => some (.int (i + j))
  | .int i, .bl j => some (.int (i + b2i j))
  | .str x, .str y => if x.length + y.length ≤ 16777216 then some (.str (x ++ y)) else none
  | .tup l, .tup m => if l.length + m.length ≤ 16777216 then some (.tup (l ++ m)) else none
  | .lst l, .lst m => if l.length + m.length ≤ 16777216 then some (.lst (l ++ m)) else none
  | .loc n, .lst m => match S[n]? with
    | some (.lst l) => if l.length + m.length ≤ 16777216 then some (.lst (l ++ m)) else none
    | _ => none
  | .lst l, .loc n => match S[n]? with
    | some (.lst m) => if l.length + m.length ≤ 16777216 then some (.lst (l ++ m)) else none
    | _ => none
  | _, _ => none
theorem sizeLine16 : sizeLine = 16777216 := sizeLine_eq
section
variable {X : Cx}
/-- how such a rule is shown: cases of the data -/
theorem opD_add : OpR X (binaryOp .Add) (rD X.K addD) := by
  intro pins s σ H x y v u Q I rx ry ⟨ρ, S, a, b, z, hS, ra, rb, e, q⟩
  unfold addD at e
  split at e
  · cases e; cases ra; cases rb
    exact op_add pins s σ H _ _ v u Q I rx ry ⟨_, _, rfl, rfl, q ρ H _ hS .refl rfl⟩
  · cases e; cases ra; cases rb
    exact op_add_ib pins s σ H _ _ v u Q I rx ry ⟨_, _, rfl, rfl, q ρ H _ hS .refl rfl⟩
  · rename_i x1 y1
    split at e
    · rename_i hl
      cases e; cases ra; cases rb
      exact op_add_str pins s σ H _ _ v u Q I rx ry ⟨_, _, rfl, rfl, by rw [sizeLine16]; exact hl, q ρ H _ hS .refl rfl⟩
    · cases e
  · rename_i l m
    split at e
    · rename_i hl
      cases e
      obtain ⟨p1, xs, rfl, h1, r1⟩ := ra
      obtain ⟨p2, ys, rfl, h2, r2⟩ := rb
      refine op_catA pins s σ H _ _ v u Q I rx ry ⟨p1, p2, xs, ys, rfl, rfl, h1.sq, h2.sq, by rw [sizeLine16, ← r1.length, ← r2.length]; exact hl, fun e => ?_, fun _ e => ?_, fun _ _ p hp => ?_⟩
      · have := r1.nil_iff.mpr e; subst this
        exact q ρ H _ hS .refl ⟨p2, ys, rfl, h2, by simpa using r2⟩
      · have := r2.nil_iff.mpr e; subst this
        exact q ρ H _ hS .refl ⟨p1, xs, rfl, h1, by simpa using r1⟩
      · exact new_tup hS (r1.append r2) hp q
    · cases e
  · rename_i l m
    split at e
    · rename_i hl
      cases e
      obtain ⟨p1, xs, rfl, h1, n1, r1⟩ := ra
      obtain ⟨p2, ys, rfl, h2, n2, r2⟩ := rb
      exact op_cat pins s σ H _ _ v u Q I rx ry ⟨p1, p2, xs, ys, rfl, rfl, h1, h2, by rw [sizeLine16, ← r1.length, ← r2.length]; exact hl, fun p hp => new_lst hS (r1.append r2) hp q⟩
    · cases e
  · rename_i n m
    split at e
    · rename_i l hn
      split at e
      · rename_i hl
        cases e
        obtain ⟨p1, rfl, h1⟩ := ra
        obtain ⟨p2, ys, rfl, h2, n2, r2⟩ := rb
        obtain ⟨a1, e1, xs, hx, r1⟩ := hS.obj n _ hn
        rw [h1] at e1; cases e1
        exact op_cat pins s σ H _ _ v u Q I rx ry ⟨p1, p2, xs, ys, rfl, rfl, hx, h2, by rw [sizeLine16, ← r1.length, ← r2.length]; exact hl, fun p hp => new_lst hS (r1.append r2) hp q⟩
      · cases e
    · cases e
  · rename_i l n
    split at e
    · rename_i m hn
      split at e
      · rename_i hl
        cases e
        obtain ⟨p2, rfl, h1⟩ := rb
        obtain ⟨p1, xs, rfl, h2, n2, r1⟩ := ra
        obtain ⟨a1, e1, ys, hx, r2⟩ := hS.obj n _ hn
        rw [h1] at e1; cases e1
        exact op_cat pins s σ H _ _ v u Q I rx ry ⟨p1, p2, xs, ys, rfl, rfl, h2, hx, by rw [sizeLine16, ← r1.length, ← r2.length]; exact hl, fun p hp => new_lst hS (r1.append r2) hp q⟩
      · cases e
    · cases e
  · cases e

def subD : G2 := fun _ a b => match a, b with
  | .int i, .int j => some (.int (i - j))
  | .bl i, .bl j => some (.int (b2i i - b2i j))
  | _, _ => none
theorem opD_sub : OpR X (binaryOp .Sub) (rD X.K subD) := by
  intro pins s σ H x y v u Q I rx ry ⟨ρ, S, a, b, z, hS, ra, rb, e, q⟩
  unfold subD at e
  split at e
  · cases e; cases ra; cases rb
    exact op_sub pins s σ H _ _ v u Q I rx ry ⟨_, _, rfl, rfl, q ρ H _ hS .refl rfl⟩
  · cases e; cases ra; cases rb
    cases rx; cases ry
    exact sub_bool ⟨.int _, H, I.tok _, ⟨_, rfl⟩, q ρ H _ hS .refl rfl⟩
  · cases e
theorem intBits_le {i : Int} {n : Nat} (h : i.natAbs < 2 ^ n) (h0 : 0 < n) : (Builtin.Int.intBits i : Int) ≤ n := by
  have x := PySem.Flt.log2_lt_of h0 h
  unfold Builtin.Int.intBits
  split <;> omega
noncomputable def mulD : G2 := fun S a b => match a, b with
  | .int i, .int j => if Sm 60000 i ∧ Sm 60000 j then some (.int (i * j)) else none
  | .lst l, .int j => if 0 ≤ j ∧ j ≤ 100000 ∧ l.length * j.toNat ≤ 16777216 then some (.lst (List.replicate j.toNat l).flatten) else none
  | .loc n, .int j => match S[n]? with
    | some (.lst l) => if 0 ≤ j ∧ j ≤ 100000 ∧ l.length * j.toNat ≤ 16777216 then some (.lst (List.replicate j.toNat l).flatten) else none
    | _ => none
  | .tup l, .int j => if l ≠ [] ∧ 2 ≤ j ∧ j ≤ 1000 ∧ l.length ≤ 1000 then some (.tup (List.replicate j.toNat l).flatten) else none
  | _, _ => none
theorem Rps.rep {K : PySem.W.Frag} {ρ : Rho} {H : Hp} {l : List D} {vs : List V} (h : Rps K ρ H l vs) : ∀ n : Nat, Rps K ρ H (List.replicate n l).flatten (List.replicate n vs).flatten
  | 0 => rfl
  | n + 1 => by
    rw [List.replicate_succ, List.replicate_succ, List.flatten_cons, List.flatten_cons]
    exact h.append (Rps.rep h n)
theorem opD_mul : OpR X (binaryOp .Mult) (rD X.K mulD) := by
  intro pins s σ H x y v u Q I rx ry ⟨ρ, S, a, b, z, hS, ra, rb, e, q⟩
  unfold mulD at e
  split at e
  · split at e
    · rename_i hc
      cases e; cases ra; cases rb
      exact op_mulX pins s σ H _ _ v u Q I rx ry ⟨_, _, rfl, rfl, mulx_ok hc.1 hc.2 (by decide), q ρ H _ hS .refl rfl⟩
    · cases e
  · split at e
    · rename_i l j hc
      cases e
      obtain ⟨p1, xs, rfl, h1, n1, r1⟩ := ra
      cases rb
      exact op_rep pins s σ H _ _ v u Q I rx ry ⟨p1, _, xs, rfl, rfl, h1, by omega, by omega, by rw [sizeLine16, ← r1.length]; exact hc.2.2, fun p hp => new_lst hS (r1.rep _) hp q⟩
    · cases e
  · rename_i n j
    split at e
    · rename_i l hn
      split at e
      · rename_i hc
        cases e
        obtain ⟨p1, rfl, h1⟩ := ra
        obtain ⟨a1, e1, xs, hx, r1⟩ := hS.obj n _ hn
        rw [h1] at e1; cases e1
        cases rb
        exact op_rep pins s σ H _ _ v u Q I rx ry ⟨p1, _, xs, rfl, rfl, hx, by omega, by omega, by rw [sizeLine16, ← r1.length]; exact hc.2.2, fun p hp => new_lst hS (r1.rep _) hp q⟩
      · cases e
    · cases e
  · rename_i l j
    split at e
    · rename_i hc
      cases e
      obtain ⟨p1, xs, rfl, h1, r1⟩ := ra
      cases rb
      exact op_repT pins s σ H _ _ v u Q I rx ry ⟨p1, _, xs, rfl, rfl, h1.sq, fun e => hc.1 (r1.nil_iff.mpr e), hc.2.1, hc.2.2.1, by rw [← r1.length]; exact hc.2.2.2, fun p hp => new_tup hS (r1.rep _) hp q⟩
    · cases e
  · cases e
noncomputable def fdivD : G2 := fun _ a b => match a, b with
  | .int i, .int j => if j ≠ 0 ∧ Sm 8000 j then some (.int (i.fdiv j)) else none
  | _, _ => none
theorem opD_fdiv : OpR X (binaryOp .FloorDiv) (rD X.K fdivD) := by
  intro pins s σ H x y v u Q I rx ry ⟨ρ, S, a, b, z, hS, ra, rb, e, q⟩
  unfold fdivD at e
  split at e
  · split at e
    · rename_i i j hc
      cases e; cases ra; cases rb
      obtain ⟨t, rfl⟩ := rx
      obtain ⟨t', rfl⟩ := ry
      exact floordiv_int hc.1 ⟨.int _, H, I.tok _, ⟨_, rfl⟩, q ρ H _ hS .refl rfl⟩ (.inl (PyProof.noPylong_of_log2 (Nat.lt_trans (PySem.Flt.log2_lt_of (by decide) hc.2) (by decide))))
    · cases e
  · cases e
def modD : G2 := fun _ a b => match a, b with
  | .int i, .int j => if j ≠ 0 then some (.int (i.fmod j)) else none
  | _, _ => none
theorem opD_mod : OpR X (binaryOp .Mod) (rD X.K modD) := by
  intro pins s σ H x y v u Q I rx ry ⟨ρ, S, a, b, z, hS, ra, rb, e, q⟩
  unfold modD at e
  split at e
  · split at e
    · rename_i i j hc
      cases e; cases ra; cases rb
      exact op_modN pins s σ H _ _ v u Q I rx ry ⟨_, _, rfl, rfl, hc, q ρ H _ hS .refl rfl⟩
    · cases e
  · cases e
noncomputable def powD : G2 := fun _ a b => match a, b with
  | .int i, .int j => if 0 ≤ j ∧ j ≤ 100 ∧ Sm 60000 i then some (.int (i ^ j.toNat)) else none
  | _, _ => none
theorem opD_pow : OpR X (binaryOp .Pow) (rD X.K powD) := by
  intro pins s σ H x y v u Q I rx ry ⟨ρ, S, a, b, z, hS, ra, rb, e, q⟩
  unfold powD at e
  split at e
  · split at e
    · rename_i i j hc
      cases e; cases ra; cases rb
      obtain ⟨t, rfl⟩ := rx
      obtain ⟨t', rfl⟩ := ry
      refine pow_int hc.1 ?_ ⟨.int _, H, I.tok _, ⟨_, rfl⟩, q ρ H _ hS .refl rfl⟩
      have h1 := intBits_le hc.2.2 (by decide)
      have h2 : (Builtin.Int.intBits i : Int) * j ≤ 60000 * 100 := by
        refine Int.mul_le_mul h1 hc.2.1 hc.1 (by decide)
      exact Int.le_trans h2 (by decide)
    · cases e
  · cases e
noncomputable def shlD : G2 := fun _ a b => match a, b with
  | .int i, .int j => if 0 ≤ j ∧ j ≤ 10000 ∧ Sm 60000 i then some (.int (i * 2 ^ j.toNat)) else none
  | _, _ => none
theorem opD_shl : OpR X (binaryOp .LShift) (rD X.K shlD) := by
  intro pins s σ H x y v u Q I rx ry ⟨ρ, S, a, b, z, hS, ra, rb, e, q⟩
  unfold shlD at e
  split at e
  · split at e
    · rename_i i j hc
      cases e; cases ra; cases rb
      obtain ⟨t, rfl⟩ := rx
      obtain ⟨t', rfl⟩ := ry
      refine lshift_int hc.1 ?_ ⟨.int _, H, I.tok _, ⟨_, rfl⟩, q ρ H _ hS .refl rfl⟩
      have h1 := intBits_le hc.2.2 (by decide)
      have : (2 : Int) ^ 27 = 134217728 := by decide
      omega
    · cases e
  · cases e
def negD : G1 := fun _ a => match a with
  | .int i => some (.int (-i))
  | _ => none
theorem unD_neg : UnR X (unaryOp .USub) (rD1 X.K negD) := by
  intro pins s σ H x v Q I rx ⟨ρ, S, a, z, hS, ra, e, q⟩
  unfold negD at e
  split at e
  · cases e; cases ra
    exact un_neg pins s σ H _ v Q I rx ⟨_, rfl, q ρ H _ hS .refl rfl⟩
  · cases e
/-! ### comparisons -/
def cmpD (f : Int → Int → Bool) : G2 := fun _ a b => match a, b with
  | .int i, .int j => some (.bl (f i j))
  | _, _ => none
theorem opD_cmp {op : CmpOp} {f : Int → Int → Bool} (h : OpR X (compareOp op) (rI0 fun i j => .bl (f i j))) : OpR X (compareOp op) (rD X.K (cmpD f)) := by
  intro pins s σ H x y v u Q I rx ry ⟨ρ, S, a, b, z, hS, ra, rb, e, q⟩
  unfold cmpD at e
  split at e
  · cases e; cases ra; cases rb
    exact h pins s σ H _ _ v u Q I rx ry ⟨_, _, rfl, rfl, q ρ H _ hS .refl rfl⟩
  · cases e
abbrev ltD : G2 := cmpD fun i j => decide (i < j)
abbrev leD : G2 := cmpD fun i j => decide (i ≤ j)
abbrev gtD : G2 := cmpD fun i j => decide (j < i)
abbrev geD : G2 := cmpD fun i j => decide (j ≤ i)
theorem opD_lt : OpR X (compareOp .Lt) (rD X.K ltD) := opD_cmp op_lt
theorem opD_le : OpR X (compareOp .LtE) (rD X.K leD) := opD_cmp op_le
theorem opD_gt : OpR X (compareOp .Gt) (rD X.K gtD) := opD_cmp op_gt
theorem opD_ge : OpR X (compareOp .GtE) (rD X.K geD) := opD_cmp op_ge
end
/-! ### == -/
mutual
def D.py : D → PyData
  | .non => .none
  | .bl b => .bool b
  | .int i => .int i
  | .str x => .str x
  | .tup l => .tuple (D.pys l)
  | .lst l => .list (D.pys l)
  | .wls l => .list (D.pys l)
  | .loc _ => .dict []
  | .gl _ => .dict []
  | .ty _ => .dict []
  | .dic _ _ => .dict []
  | .ftp _ => .dict []
def D.pys : List D → List PyData
  | [] => []
  | d :: ds => D.py d :: D.pys ds
end
def der (S : Sto) : D → D
  | .loc n => match S[n]? with
    | some (.lst l) => .lst l
    | _ => .loc n
  | d => d
section
variable {K : PySem.W.Frag} {ρ : Rho} {S : Sto} {H : Hp}
mutual
theorem Rp.dp : ∀ (d : D) (v : V), Rp K ρ H d v → d.py.canLay0 = true → Dp K H v d.py
  | .non, v, h, _ => by cases h; exact .non
  | .bl b, v, h, _ => by cases h; exact .bl b
  | .int i, v, h, _ => by cases h; exact .int i
  | .str x, v, h, _ => by cases h; exact .str x
  | .tup l, v, h, c => by
    obtain ⟨p, vs, rfl, h1, h2⟩ := h
    exact .tup h1.sq (Rps.dp l vs h2 (by simpa [D.py, PyData.canLay0] using c))
  | .lst l, v, h, c => by
    obtain ⟨p, vs, rfl, h1, _, h2⟩ := h
    exact .lst (SqL.of h1) (Rps.dp l vs h2 (by simpa [D.py, PyData.canLay0] using c))
  | .wls l, v, h, c => by
    obtain ⟨p, vs, rfl, h1, h2⟩ := h
    exact .lst h1.sq (Rps.dp l vs h2 (by simpa [D.py, PyData.canLay0] using c))
  | .loc n, v, h, c => by simp [D.py, PyData.canLay0] at c
  | .gl n, v, h, c => by simp [D.py, PyData.canLay0] at c
  | .ty n, v, h, c => by simp [D.py, PyData.canLay0] at c
  | .dic _ _, v, h, c => by simp [D.py, PyData.canLay0] at c
  | .ftp _, v, h, c => by simp [D.py, PyData.canLay0] at c
theorem Rps.dp : ∀ (ds : List D) (vs : List V), Rps K ρ H ds vs → PyData.canLayAll0 (D.pys ds) = true → DpAll K H vs (D.pys ds)
  | [], vs, h, _ => by cases h; exact .nil
  | d :: ds, vs, h, c => by
    obtain ⟨v, r, rfl, h1, h2⟩ := h
    have c' : d.py.canLay0 = true ∧ PyData.canLayAll0 (D.pys ds) = true := by simpa [D.pys, PyData.canLayAll0] using c
    exact .cons (Rp.dp d v h1 c'.1) (Rps.dp ds r h2 c'.2)
end
theorem der_dp {d : D} {v : V} (hS : SOk K ρ S H) (h : Rp K ρ H d v) (c : (der S d).py.canLay0 = true) : Dp K H v (der S d).py := by
  cases d with
  | loc n =>
    unfold der at c ⊢
    simp only at c ⊢
    split at c
    · rename_i l hn
      obtain ⟨p1, rfl, h1⟩ := h
      obtain ⟨a1, e1, xs, hx, r1⟩ := hS.obj n _ hn
      rw [h1] at e1; cases e1
      exact .lst (SqL.of hx) (Rps.dp l xs r1 (by simpa [D.py, PyData.canLay0] using c))
    · simp [D.py, PyData.canLay0] at c
  | _ => exact Rp.dp _ v h c
end
def eqD : G2 := fun S a b => if SeqAt.shaped (der S a).py = true ∧ SeqAt.shaped (der S b).py = true then some (.bl (PyData.eqv (der S a).py (der S b).py)) else none
def neD : G2 := fun S a b => if SeqAt.shaped (der S a).py = true ∧ SeqAt.shaped (der S b).py = true then some (.bl (!PyData.eqv (der S a).py (der S b).py)) else none
section
variable {X : Cx}
theorem opD_eq (hu : X.A.units + 64 < cLine) : OpR X (compareOp .Eq) (rD X.K eqD) := by
  intro pins s σ H x y v u Q I rx ry ⟨ρ, S, a, b, z, hS, ra, rb, e, q⟩
  unfold eqD at e
  split at e
  · rename_i hc
    cases e
    exact op_eqD hu pins s σ H x y v u Q I rx ry ⟨_, _, der_dp hS ra (SeqAt.canLay_of_shaped hc.1), der_dp hS rb (SeqAt.canLay_of_shaped hc.2), hc.1, hc.2, q ρ H _ hS .refl rfl⟩
  · cases e
theorem opD_ne (hu : X.A.units + 64 < cLine) : OpR X (compareOp .NotEq) (rD X.K neD) := by
  intro pins s σ H x y v u Q I rx ry ⟨ρ, S, a, b, z, hS, ra, rb, e, q⟩
  unfold neD at e
  split at e
  · rename_i hc
    cases e
    exact op_neD hu pins s σ H x y v u Q I rx ry ⟨_, _, der_dp hS ra (SeqAt.canLay_of_shaped hc.1), der_dp hS rb (SeqAt.canLay_of_shaped hc.2), hc.1, hc.2, q ρ H _ hS .refl rfl⟩
  · cases e
/-! ### is -/
def D.isNon : D → Bool
  | .non => true
  | _ => false
def D.isBl (c : Bool) : D → Bool
  | .bl d => decide (d = c)
  | _ => false
def isB (a b : D) : Option Bool := match b with
  | .non => some a.isNon
  | .bl c => some (a.isBl c)
  | _ => none
def isD : G2 := fun _ a b => (isB a b).map .bl
def isnD : G2 := fun _ a b => (isB a b).map fun c => .bl (!c)
theorem Rp.ne_non {K : PySem.W.Frag} {ρ : Rho} {H : Hp} {a : D} {x : V} (h : Rp K ρ H a x) : decide (x = V.non) = a.isNon := by
  cases a with
  | tup l => obtain ⟨p, vs, rfl, _⟩ := h; rfl
  | lst l => obtain ⟨p, vs, rfl, _⟩ := h; rfl
  | wls l => obtain ⟨p, vs, rfl, _⟩ := h; rfl
  | loc n => obtain ⟨p, rfl, _⟩ := h; rfl
  | dic ks l => obtain ⟨p, vs, rfl, _⟩ := h; rfl
  | ftp l => obtain ⟨p, vs, rfl, _⟩ := h; rfl
  | _ => cases h; rfl
theorem relv_isb {x : V} {v : Value} {c : Bool} (r : L2.RelV x v) : (v = Value.bool c) ↔ x = .bl c := by
  cases x with
  | non => cases r; simp
  | bl b => cases r; simp
  | int i => obtain ⟨t, rfl⟩ := r; simp
  | str i => obtain ⟨t, rfl⟩ := r; simp
  | byt i => obtain ⟨t, rfl⟩ := r; simp
  | flt i => obtain ⟨t, rfl⟩ := r; simp
  | ref a => cases r; simp
  | ty n => cases r; simp
theorem plain_bl {x : V} {v : Value} {c : Bool} (r : L2.RelV x v) : plainIs v (.bool c) = true := by
  cases x with
  | non => cases r; rfl
  | bl b => cases r; rfl
  | int i => obtain ⟨t, rfl⟩ := r; rfl
  | str i => obtain ⟨t, rfl⟩ := r; rfl
  | byt i => obtain ⟨t, rfl⟩ := r; rfl
  | flt i => obtain ⟨t, rfl⟩ := r; rfl
  | ref a => cases r; rfl
  | ty n => cases r; rfl
theorem Rp.is_bl {K : PySem.W.Frag} {ρ : Rho} {H : Hp} {a : D} {x : V} {c : Bool} (h : Rp K ρ H a x) : decide (x = V.bl c) = a.isBl c := by
  cases a with
  | tup l => obtain ⟨p, vs, rfl, _⟩ := h; rfl
  | lst l => obtain ⟨p, vs, rfl, _⟩ := h; rfl
  | wls l => obtain ⟨p, vs, rfl, _⟩ := h; rfl
  | loc n => obtain ⟨p, rfl, _⟩ := h; rfl
  | dic ks l => obtain ⟨p, vs, rfl, _⟩ := h; rfl
  | ftp l => obtain ⟨p, vs, rfl, _⟩ := h; rfl
  | bl d => cases h; simp [D.isBl]
  | _ => cases h; rfl
end
end Mi

namespace Mi
open PySem PySem.Spec PyProof.Rows L2
section
variable {X : Cx}
theorem opD_is : OpR X (compareOp .Is) (rD X.K isD) := by
  intro pins s σ H x y v u Q I rx ry ⟨ρ, S, a, b, z, hS, ra, rb, e, q⟩
  unfold isD isB at e
  split at e
  · cases e; cases rb
    exact op_isN pins s σ H _ _ v u Q I rx ry ⟨rfl, by rw [ra.ne_non]; exact q ρ H _ hS .refl rfl⟩
  · rename_i c
    cases e; cases rb; cases ry
    refine wpAny_is_plain (plain_bl rx) ⟨.bl _, H, I, rfl, ?_⟩
    have e1 : (v == Value.bool c) = decide (x = V.bl c) := by
      rw [Bool.eq_iff_iff]; simp [relv_isb rx]
    rw [e1, ra.is_bl]
    exact q ρ H _ hS .refl rfl
  · cases e
theorem opD_isn : OpR X (compareOp .IsNot) (rD X.K isnD) := by
  intro pins s σ H x y v u Q I rx ry ⟨ρ, S, a, b, z, hS, ra, rb, e, q⟩
  unfold isnD isB at e
  split at e
  · cases e; cases rb
    exact op_notN pins s σ H _ _ v u Q I rx ry ⟨rfl, by rw [ra.ne_non]; exact q ρ H _ hS .refl rfl⟩
  · rename_i c
    cases e; cases rb; cases ry
    refine wpAny_isNot_plain (plain_bl rx) ⟨.bl _, H, I, rfl, ?_⟩
    have e1 : (v == Value.bool c) = decide (x = V.bl c) := by
      rw [Bool.eq_iff_iff]; simp [relv_isb rx]
    rw [e1, ra.is_bl]
    exact q ρ H _ hS .refl rfl
  · cases e
end
/-! ### in: data in a list; flat data in a tuple -/
def D.flat : D → Bool
  | .non => true
  | .bl _ => true
  | .int _ => true
  | .str _ => true
  | _ => false
def inB (S : Sto) (a b : D) : Option Bool := match der S b with
  | .lst l => if SeqAt.shaped a.py = true ∧ SeqAt.shaped (.list (D.pys l)) = true then some ((D.pys l).any fun z => PyData.eqv z a.py) else none
  | .wls l => if SeqAt.shaped a.py = true ∧ SeqAt.shaped (.list (D.pys l)) = true then some ((D.pys l).any fun z => PyData.eqv z a.py) else none
  | .tup l => if a.flat = true ∧ l.all D.flat = true then some (l.any fun z => PyData.eqv z.py a.py) else none
  | _ => none
def inD : G2 := fun S a b => (inB S a b).map .bl
def ninD : G2 := fun S a b => (inB S a b).map fun c => .bl (!c)
section
variable {K : PySem.W.Frag} {ρ : Rho} {S : Sto} {H : Hp}
theorem Rp.flatV {d : D} {v : V} (h : Rp K ρ H d v) (f : d.flat = true) : flatV v = true := by
  cases d <;> first | (cases h; rfl) | (simp [D.flat] at f)
theorem Rps.flatV : ∀ {ds : List D} {vs : List V}, Rps K ρ H ds vs → ds.all D.flat = true → vs.all L2.flatV = true
  | [], _, h, _ => by cases h; rfl
  | d :: ds, _, h, f => by
    obtain ⟨v, r, rfl, h1, h2⟩ := h
    rw [List.all_cons, Bool.and_eq_true] at f
    rw [List.all_cons, h1.flatV f.1, Rps.flatV h2 f.2]; rfl
theorem Rp.eqV {d e : D} {v u : V} (h : Rp K ρ H d v) (k : Rp K ρ H e u) (f : d.flat = true) (g : e.flat = true) : eqV v u = PyData.eqv d.py e.py := by
  cases d <;> first
    | (simp [D.flat] at f; done)
    | (cases h; cases e <;> first
        | (simp [D.flat] at g; done)
        | (cases k; rfl))
theorem Rps.inV : ∀ {ds : List D} {vs : List V} {e : D} {u : V}, Rps K ρ H ds vs → Rp K ρ H e u → ds.all D.flat = true → e.flat = true → L2.inV u vs = ds.any fun z => PyData.eqv z.py e.py
  | [], _, _, _, h, _, _, _ => by cases h; rfl
  | d :: ds, _, e, u, h, k, f, g => by
    obtain ⟨v, r, rfl, h1, h2⟩ := h
    rw [List.all_cons, Bool.and_eq_true] at f
    have ih := Rps.inV h2 k f.2 g
    unfold L2.inV at ih ⊢
    rw [List.any_cons, List.any_cons, h1.eqV k f.1 g, ih]
end
section
variable {X : Cx}
theorem inB_ok {pins : List (Addr × Obj)} {s : Shared} {σ : L2.St} {H : Hp} {x y : V} {v u : Value} {Q : VK} {ρ : Rho} {S : Sto} {a b : D} {c : Bool} (hu : X.A.units + 65 < cLine) (I : Inv X pins σ H s) (rx : RelV x v) (ry : RelV y u)
    (hS : SOk X.K ρ S H) (ra : Rp X.K ρ H a x) (rb : Rp X.K ρ H b y) (e : inB S a b = some c) :
    (Q (.bl c) H → wpAny (model X.prog X.w) X.A (compareOp .In v u) (EP X pins σ Q) X.xe s) ∧ (Q (.bl (!c)) H → wpAny (model X.prog X.w) X.A (compareOp .NotIn v u) (EP X pins σ Q) X.xe s) := by
  unfold inB at e
  have lists : ∀ l : List D, (der S b = .lst l ∨ der S b = .wls l) → SeqAt.shaped a.py = true → SeqAt.shaped (.list (D.pys l)) = true → c = ((D.pys l).any fun z => PyData.eqv z a.py) →
      (Q (.bl c) H → wpAny (model X.prog X.w) X.A (compareOp .In v u) (EP X pins σ Q) X.xe s) ∧ (Q (.bl (!c)) H → wpAny (model X.prog X.w) X.A (compareOp .NotIn v u) (EP X pins σ Q) X.xe s) := by
    intro l hd h1 h2 hc
    have e1 : (der S b).py = .list (D.pys l) := by rcases hd with q | q <;> rw [q] <;> rfl
    have d1 := ra.dp _ _ (SeqAt.canLay_of_shaped h1)
    have d2 := der_dp hS rb (by rw [e1]; exact SeqAt.canLay_of_shaped h2)
    rw [e1] at d2
    subst hc
    exact ⟨fun q => op_inD hu pins s σ H x y v u Q I rx ry ⟨_, _, d1, d2, h1, h2, q⟩, fun q => op_notInD hu pins s σ H x y v u Q I rx ry ⟨_, _, d1, d2, h1, h2, q⟩⟩
  split at e
  · rename_i l hd
    split at e
    · rename_i hc
      exact lists l (.inl hd) hc.1 hc.2 (Option.some.inj e).symm
    · cases e
  · rename_i l hd
    split at e
    · rename_i hc
      exact lists l (.inr hd) hc.1 hc.2 (Option.some.inj e).symm
    · cases e
  · rename_i l hd
    split at e
    · rename_i hc
      have hb : b = .tup l := by
        cases b with
        | loc n =>
          unfold der at hd
          simp only at hd
          split at hd <;> cases hd
        | _ => exact hd
      subst hb
      obtain ⟨p, vs, rfl, h1, h2⟩ := rb
      have e1 := h2.inV ra hc.2 hc.1
      have e2 := Option.some.inj e
      refine ⟨fun q => op_in_seq pins s σ H x _ v u Q I rx ry ⟨p, vs, rfl, .inr h1.sq, ra.flatV hc.1, h2.flatV hc.2, ?_⟩, fun q => op_notIn_seq pins s σ H x _ v u Q I rx ry ⟨p, vs, rfl, .inr h1.sq, ra.flatV hc.1, h2.flatV hc.2, ?_⟩⟩
      · rw [if_neg (by decide), e1, e2]; exact q
      · rw [if_pos rfl, e1, e2]; exact q
    · cases e
  · cases e
theorem opD_in (hu : X.A.units + 65 < cLine) : OpR X (compareOp .In) (rD X.K inD) := by
  intro pins s σ H x y v u Q I rx ry ⟨ρ, S, a, b, z, hS, ra, rb, e, q⟩
  unfold inD at e
  cases hc : inB S a b with
  | none => rw [hc] at e; cases e
  | some c =>
    rw [hc] at e; cases e
    exact (inB_ok (Q := Q) hu I rx ry hS ra rb hc).1 (q ρ H _ hS .refl rfl)
theorem opD_nin (hu : X.A.units + 65 < cLine) : OpR X (compareOp .NotIn) (rD X.K ninD) := by
  intro pins s σ H x y v u Q I rx ry ⟨ρ, S, a, b, z, hS, ra, rb, e, q⟩
  unfold ninD at e
  cases hc : inB S a b with
  | none => rw [hc] at e; cases e
  | some c =>
    rw [hc] at e; cases e
    exact (inB_ok (Q := Q) hu I rx ry hS ra rb hc).2 (q ρ H _ hS .refl rfl)
end

/-! ### subscripts -/
def keyD : D → Option Key
  | .int i => some (.inl i)
  | .str x => some (.inr x)
  | _ => none
def keysD : List D → Option (List Key)
  | [] => some []
  | d :: ds => (keyD d).bind fun k => (keysD ds).map fun ks => k :: ks
def valD {κ : Type} [DecidableEq κ] (l : List (κ × D)) (k : κ) : Option D := (l.find? fun kv => decide (kv.1 = k)).map (·.2)
def intD : D → Option Int
  | .int i => some i
  | _ => none
def ixD : G2 := fun S a b => match a with
  | .tup l => (intD b).bind (atI l)
  | .lst l => (intD b).bind (atI l)
  | .wls l => (intD b).bind (atI l)
  | .loc n => match S[n]? with
    | some (.lst l) => (intD b).bind (atI l)
    | some (.dct l) => (keyD b).bind (valD l)
    | _ => none
  | .str x => if x.length ≤ 16777216 then ((intD b).bind (atI x.cps.toList)).map fun c => .str ⟨#[c]⟩ else none
  | _ => none
section
variable {K : PySem.W.Frag} {ρ : Rho} {S : Sto} {H : Hp}
theorem Rps.atI {l : List D} {vs : List V} {i : Int} {d : D} (h : Rps K ρ H l vs) (e : L2.atI l i = some d) : ∃ v, L2.atI vs i = some v ∧ Rp K ρ H d v := by
  unfold L2.atI at e ⊢
  rw [← h.length]
  cases q : ixN l.length i with
  | none => rw [q] at e; cases e
  | some j =>
    rw [q] at e
    exact h.get e
theorem Rp.key {b : D} {y : V} {k : Key} (h : Rp K ρ H b y) (e : keyD b = some k) : y = kV k := by
  cases b with
  | int i => cases e; exact h
  | str x => cases e; exact h
  | _ => cases e
theorem Rps.keys : ∀ {l : List D} {vs : List V} {ks : List Key}, Rps K ρ H l vs → keysD l = some ks → vs = ks.map kV
  | [], _, _, h, e => by cases h; cases e; rfl
  | d :: ds, _, ks, h, e => by
    obtain ⟨v, r, rfl, h1, h2⟩ := h
    unfold keysD at e
    cases hk : keyD d with
    | none => rw [hk] at e; cases e
    | some k =>
      rw [hk] at e
      cases hks : keysD ds with
      | none => rw [hks] at e; cases e
      | some ks' =>
        rw [hks] at e
        cases e
        rw [h1.key hk, Rps.keys h2 hks]; rfl
theorem KVs.val {κ : Type} [DecidableEq κ] : ∀ {l : List (κ × D)} {vs : List (κ × V)} {k : κ} {d : D}, KVs K ρ H l vs → valD l k = some d → ∃ v, valV vs k = some v ∧ Rp K ρ H d v
  | [], _, _, _, h, e => by cases e
  | (k0, d0) :: ds, _, k, d, h, e => by
    obtain ⟨v, r, rfl, h1, h2⟩ := h
    unfold valD at e
    unfold valV
    rw [List.find?_cons] at e ⊢
    by_cases q : k0 = k
    · subst q
      simp only [decide_true, Option.map_some, Option.some.injEq] at e ⊢
      subst e
      exact ⟨v, rfl, h1⟩
    · rw [decide_eq_false q] at e
      simp only [decide_eq_false q] at e ⊢
      exact KVs.val h2 e
end
theorem Rp.int' {K : PySem.W.Frag} {ρ : Rho} {H : Hp} {b : D} {y : V} {α : Type} {f : Int → Option α} {z : α} (h : Rp K ρ H b y) (e : (intD b).bind f = some z) : ∃ i, y = .int i ∧ f i = some z := by
  cases b with
  | int i => exact ⟨i, h, e⟩
  | _ => cases e
section
variable {X : Cx}
theorem ixD_ok (hu : X.A.units + 1 < cLine) : IxR X (rD X.K ixD) := by
  intro value slice pins s σ H x y v u Q I rx ry ⟨ρ, S, a, b, z, hS, ra, rb, e, q⟩ hs
  unfold ixD at e
  have lists : ∀ (p1 : Addr) (xs : List V) (l : List D), x = .ref p1 → (SqL X.K H p1 xs ∨ SqT X.K H p1 xs) → Rps X.K ρ H l xs → (intD b).bind (L2.atI l) = some z → wpAny (model X.prog X.w) X.A (subscriptTail value slice v u) (EP X pins σ Q) X.xe s := by
    intro p1 xs l ex h1 r1 e
    subst ex
    obtain ⟨i, rfl, e⟩ := rb.int' e
    obtain ⟨w, e1, r2⟩ := r1.atI e
    rcases h1 with h1 | h1
    · exact ix_list value slice pins s σ H _ _ v u Q I rx ry ⟨p1, xs, _, w, rfl, rfl, h1, e1, q ρ H _ hS .refl r2⟩ hs
    · exact ix_tup value slice pins s σ H _ _ v u Q I rx ry ⟨p1, xs, _, w, rfl, rfl, h1, e1, q ρ H _ hS .refl r2⟩ hs
  cases a with
  | tup l =>
    obtain ⟨p1, xs, ex, h1, r1⟩ := ra
    exact lists p1 xs l ex (.inr h1.sq) r1 e
  | lst l =>
    obtain ⟨p1, xs, ex, h1, _, r1⟩ := ra
    exact lists p1 xs l ex (.inl (SqL.of h1)) r1 e
  | wls l =>
    obtain ⟨p1, xs, ex, h1, r1⟩ := ra
    exact lists p1 xs l ex (.inl h1.sq) r1 e
  | loc n =>
    obtain ⟨p1, ex, h1⟩ := ra
    simp only at e
    split at e
    · rename_i l hn
      obtain ⟨a1, e1, xs, hx, r1⟩ := hS.obj n _ hn
      rw [h1] at e1; cases e1
      exact lists p1 xs l ex (.inl (SqL.of hx)) r1 e
    · rename_i l hn
      obtain ⟨a1, e1, xs, hx, r1⟩ := hS.obj n _ hn
      rw [h1] at e1; cases e1
      subst ex
      cases hk : keyD b with
      | none => rw [hk] at e; cases e
      | some k =>
        rw [hk] at e
        obtain ⟨w, e2, r2⟩ := r1.val e
        have ey := rb.key hk
        subst ey
        have g : DGet H p1 (kV k) (some w) := by
          rw [← e2]
          exact DGet.k hx
        cases rx
        exact PyProof.Rows.tail_any (dict_typeIs I g) PySem.F.slot_dict_getitem.lookup (d_getItem hu I g ry fun w' s3 I3 rw2 => ⟨w, H, I3, rw2, q ρ H w hS .refl r2⟩) hs
    · cases e
  | str x1 =>
    simp only at e
    split at e
    · rename_i hl
      cases hc : (intD b).bind (L2.atI x1.cps.toList) with
      | none => rw [hc] at e; cases e
      | some c =>
        rw [hc] at e; cases e; cases ra
        obtain ⟨i, rfl, hc⟩ := rb.int' hc
        exact ix_str value slice pins s σ H _ _ v u Q I rx ry ⟨x1, i, c, rfl, rfl, by rw [sizeLine16]; exact hl, hc, q ρ H _ hS .refl rfl⟩ hs
    · cases e
  | _ => cases e
theorem d_ix {W : WX} {a b : Expr} {ma mb : TM} {pos : Pos} (hu : X.A.units + 1 < cLine) (ha : DE X W a ma) (hb : DE X W b mb) (hs : PlainIx b) : DE X W (.Subscript a b pos) (mOp ixD ma mb) :=
  ⟨PE.imp (pe_ix (ixD_ok hu) ha.p hb.p hs) fun σ H Q h => of_op h⟩
end
end Mi

namespace Mi
open PySem PySem.Spec PyProof.Rows L2
/-! ### tests -/
def bVal (m : TM) : BM := fun env S => (m env S).bind fun a S1 => match a with
  | .bl b => .ok b S1
  | _ => .bad
def bAnd (m n : BM) : BM := fun env S => (m env S).bind fun a S1 => if a = true then n env S1 else .ok false S1
def bOr (m n : BM) : BM := fun env S => (m env S).bind fun a S1 => if a = true then .ok true S1 else n env S1
def bNot (m : BM) : BM := fun env S => (m env S).bind fun a S1 => .ok (!a) S1
def mAnd (m n : TM) : TM := fun env S => (m env S).bind fun a S1 => match a with
  | .bl true => n env S1
  | .bl false => .ok (.bl false) S1
  | _ => .bad
def mOr (m n : TM) : TM := fun env S => (m env S).bind fun a S1 => match a with
  | .bl true => .ok (.bl true) S1
  | .bl false => n env S1
  | _ => .bad
def mNot (m : TM) : TM := fun env S => (m env S).bind fun a S1 => match a with
  | .bl b => .ok (.bl (!b)) S1
  | _ => .bad
def mIf (t : BM) (m n : TM) : TM := fun env S => (t env S).bind fun a S1 => if a = true then m env S1 else n env S1
structure DW (X : Cx) (W : WX) (e : Expr) (m : BM) : Prop where
  p : PW X e (tT X.K W m)
section
variable {X : Cx} {W : WX} {a b c : Expr} {ma mb mc : TM} {ba bb : BM} {pos : Pos} {rest : List Expr}
theorem of_val {K : PySem.W.Frag} {m : TM} {σ : L2.St} {H : Hp} {Q : Bool → Hp → Prop} (h : tT K W (bVal m) σ H Q) : tTest (tE K W m) σ H Q := by
  obtain ⟨ρ, S, env, hS, hE, h⟩ := h
  refine Post.bindK hS hE h fun x H1 ρ1 S1 d1 hS1 hE1 st1 r1 h1 => ?_
  cases d1 with
  | bl b => cases r1; exact ⟨b, rfl, h1 ρ1 H1 b hS1 .refl rfl⟩
  | _ => exact h1.elim
theorem t_cmp {op : CmpOp} {g : G2} (ho : OpR X (compareOp op) (rD X.K g)) (ha : DE X W a ma) (hb : DE X W b mb) (hm : behindInMarks op b = false) : DT X W (.Compare a [op] [b] pos) (bVal (mOp g ma mb)) :=
  ⟨PT.imp (pt_cmpR ho ha.p hb.p hm) fun σ H Q h => of_op (of_val h)⟩
theorem t_val (h : DE X W a ma) (he : ∀ whole, isTrue a X.env whole = (do let v ← whole; standAt a.pos; holding [v] (truthy v)) := by intro _; rfl) : DT X W a (bVal ma) :=
  ⟨PT.imp (pt_val h.p he) fun σ H Q h => of_val h⟩
theorem t_not (h : DT X W a ba) : DT X W (.UnaryOp .Not a pos) (bNot ba) :=
  ⟨PT.imp (pt_not h.p) fun σ H Q ⟨ρ, S, env, hS, hE, h⟩ => Post.bindK hS hE h fun x H1 ρ1 S1 d1 hS1 hE1 st1 r1 h1 => by cases r1; exact h1 ρ1 H1 _ hS1 .refl rfl⟩
theorem w_and1 (h : DT X W a ba) : DW X W (.BoolOp .And [a] pos) ba := ⟨pw_and1 h.p⟩
theorem w_or1 (h : DT X W a ba) : DW X W (.BoolOp .Or [a] pos) ba := ⟨pw_or1 h.p⟩
theorem w_and (h : DT X W a ba) (k : DW X W (.BoolOp .And (b :: rest) pos) bb) : DW X W (.BoolOp .And (a :: b :: rest) pos) (bAnd ba bb) :=
  ⟨PW.imp (pw_and h.p k.p) fun σ H Q ⟨ρ, S, env, hS, hE, h⟩ => Post.bindK hS hE h fun x H1 ρ1 S1 d1 hS1 hE1 st1 r1 h1 => by
    cases r1
    cases x with
    | true => exact ⟨ρ1, S1, env, hS1, hE1, h1⟩
    | false => exact h1 ρ1 H1 _ hS1 .refl rfl⟩
theorem w_or (h : DT X W a ba) (k : DW X W (.BoolOp .Or (b :: rest) pos) bb) : DW X W (.BoolOp .Or (a :: b :: rest) pos) (bOr ba bb) :=
  ⟨PW.imp (pw_or h.p k.p) fun σ H Q ⟨ρ, S, env, hS, hE, h⟩ => Post.bindK hS hE h fun x H1 ρ1 S1 d1 hS1 hE1 st1 r1 h1 => by
    cases r1
    cases x with
    | true => exact h1 ρ1 H1 _ hS1 .refl rfl
    | false => exact ⟨ρ1, S1, env, hS1, hE1, h1⟩⟩
theorem t_bool (h : DW X W a ba) : DT X W a ba := ⟨h.p.pt⟩
/-- .. as values -/
theorem d_one {op : BoolOp} (h : DE X W a ma) : DE X W (.BoolOp op [a] pos) ma := ⟨pe_one h.p⟩
theorem d_and (h : DE X W a ma) (k : DE X W (.BoolOp .And (b :: rest) pos) mb) : DE X W (.BoolOp .And (a :: b :: rest) pos) (mAnd ma mb) :=
  ⟨PE.imp (pe_and h.p k.p) fun σ H Q ⟨ρ, S, env, hS, hE, h⟩ => Post.bindK hS hE h fun x H1 ρ1 S1 d1 hS1 hE1 st1 r1 h1 => by
    cases d1 with
    | bl d =>
      cases r1
      cases d with
      | true => exact ⟨true, rfl, ρ1, S1, env, hS1, hE1, h1⟩
      | false => exact ⟨false, rfl, h1 ρ1 H1 (.bl false) hS1 .refl rfl⟩
    | _ => exact h1.elim⟩
theorem d_or (h : DE X W a ma) (k : DE X W (.BoolOp .Or (b :: rest) pos) mb) : DE X W (.BoolOp .Or (a :: b :: rest) pos) (mOr ma mb) :=
  ⟨PE.imp (pe_or h.p k.p) fun σ H Q ⟨ρ, S, env, hS, hE, h⟩ => Post.bindK hS hE h fun x H1 ρ1 S1 d1 hS1 hE1 st1 r1 h1 => by
    cases d1 with
    | bl d =>
      cases r1
      cases d with
      | true => exact ⟨true, rfl, h1 ρ1 H1 (.bl true) hS1 .refl rfl⟩
      | false => exact ⟨false, rfl, ρ1, S1, env, hS1, hE1, h1⟩
    | _ => exact h1.elim⟩
theorem d_not (h : DE X W a ma) : DE X W (.UnaryOp .Not a pos) (mNot ma) :=
  ⟨PE.imp (pe_not h.p) fun σ H Q ⟨ρ, S, env, hS, hE, h⟩ => Post.bindK hS hE h fun x H1 ρ1 S1 d1 hS1 hE1 st1 r1 h1 => by
    cases d1 with
    | bl d => cases r1; exact ⟨d, rfl, h1 ρ1 H1 (.bl (!d)) hS1 .refl rfl⟩
    | _ => exact h1.elim⟩
theorem d_if (hc : DT X W c ba) (ha : DE X W a ma) (hb : DE X W b mb) : DE X W (.IfExp c a b pos) (mIf ba ma mb) :=
  ⟨PE.imp (pe_ifExp hc.p ha.p hb.p) fun σ H Q ⟨ρ, S, env, hS, hE, h⟩ => Post.bindK hS hE h fun x H1 ρ1 S1 d1 hS1 hE1 st1 r1 h1 => by
    cases r1
    cases x with
    | true => exact ⟨ρ1, S1, env, hS1, hE1, h1⟩
    | false => exact ⟨ρ1, S1, env, hS1, hE1, h1⟩⟩
end
/-! ### chains -/
def mChain (g g' : G2) (ma mb mc : TM) : TM := fun env S => (ma env S).bind fun a S1 => (mb env S1).bind fun b S2 => match g S2 a b with
  | some (.bl true) => (mc env S2).bind fun c S3 => R.of (g' S3 b c) S3
  | some (.bl false) => .ok (.bl false) S2
  | _ => .bad
section
variable {X : Cx} {W : WX} {a b c : Expr} {ma mb mc : TM} {pos : Pos}
theorem of_chain {K : PySem.W.Frag} {g g' : G2} {σ : L2.St} {H : Hp} {Q : VK} (h : tE K W (mChain g g' ma mb mc) σ H Q) : tChain (rD K g) (rD K g') (tE K W ma) (tE K W mb) (tE K W mc) σ H Q := by
  obtain ⟨ρ, S, env, hS, hE, h⟩ := h
  refine Post.bindK hS hE h fun x H1 ρ1 S1 d1 hS1 hE1 st1 r1 h1 => ?_
  refine Post.bindK hS1 hE1 h1 fun y H2 ρ2 S2 d2 hS2 hE2 st2 r2 h2 => ?_
  have r1' := r1.step hS1 st2
  cases e : g S2 d1 d2 with
  | none => rw [e] at h2; exact h2.elim
  | some z =>
    rw [e] at h2
    cases z with
    | bl k =>
      refine ⟨ρ2, S2, d1, d2, .bl k, hS2, r1', r2, e, fun ρ3 H3 v hS3 st3 r3 => ?_⟩
      cases r3
      refine ⟨k, rfl, ?_⟩
      cases k with
      | true =>
        rw [if_pos rfl]
        have h3 := h2.step st3
        refine Post.bindK hS3 (hE2.step hS2 st3) h3 fun z H4 ρ4 S4 d4 hS4 hE4 st4 r4 h4 => ?_
        cases e' : g' S4 d2 d4 with
        | none => rw [e'] at h4; exact h4.elim
        | some z' =>
          rw [e'] at h4
          exact ⟨ρ4, S4, d2, d4, z', hS4, (r2.step hS2 st3).step hS3 st4, r4, e', h4⟩
      | false =>
        rw [if_neg Bool.false_ne_true]
        exact h2 ρ3 H3 (.bl false) hS3 st3 rfl
    | _ => exact h2.elim
theorem d_chain {op op' : CmpOp} {g g' : G2} (ho : OpR X (compareOp op) (rD X.K g)) (ho' : OpR X (compareOp op') (rD X.K g')) (ha : DE X W a ma) (hb : DE X W b mb) (hc : DE X W c mc)
    (hm : lastMarks [op, op'] [b, c] = false := by with_unfolding_all rfl) : DE X W (.Compare a [op, op'] [b, c] pos) (mChain g g' ma mb mc) :=
  ⟨PE.imp (pe_chain ho ho' ha.p hb.p hc.p hm) fun σ H Q h => of_chain h⟩
theorem t_chain {op op' : CmpOp} {g g' : G2} (ho : OpR X (compareOp op) (rD X.K g)) (ho' : OpR X (compareOp op') (rD X.K g')) (ha : DE X W a ma) (hb : DE X W b mb) (hc : DE X W c mc)
    (hm : lastMarks [op, op'] [b, c] = false := by with_unfolding_all rfl) : DT X W (.Compare a [op, op'] [b, c] pos) (bVal (mChain g g' ma mb mc)) :=
  ⟨PT.imp (pt_chain ho ho' ha.p hb.p hc.p hm) fun σ H Q h => of_chain (of_val h)⟩
end
/-! ### argument lists, tuples, lists -/
def aNil : AM := fun _ S => .ok [] S
def aCons (m : TM) (n : AM) : AM := fun env S => (m env S).bind fun a S1 => (n env S1).bind fun l S2 => .ok (a :: l) S2
def mTup (n : AM) : TM := fun env S => (n env S).bind fun l S1 => if l.length ≤ 16777216 then .ok (.tup l) S1 else .bad
def mLst (n : AM) : TM := fun env S => (n env S).bind fun l S1 => if l.length ≤ 16777216 then .ok (.lst l) S1 else .bad
/-- a new place of the store -/
def R.new (o : O) (S : Sto) : R D := .ok (.loc S.length) (S ++ [o])
def mNew (n : AM) : TM := fun env S => (n env S).bind fun l S1 => if l.length ≤ 16777216 then R.new (.lst l) S1 else .bad
section
variable {K : PySem.W.Frag} {W : WX} {ρ ρ' : Rho} {S S' : Sto} {H H' : Hp} {σ : L2.St}
def Rho.put (ρ : Rho) (n : Nat) (p : Addr) : Rho := ⟨fun m => if m = n then some p else ρ.m m, ρ.pv⟩
theorem new_step {p : Addr} {o : HO} (hS : SOk K ρ S H) (hp : H p = none) : Stp ρ (ρ.put S.length p) H (upd H p o) where
  up n a h := by
    unfold Rho.put
    simp only
    rw [if_neg (Nat.ne_of_lt (hS.dom n a h))]
    exact h
  new n a h := by
    unfold Rho.put at h
    simp only at h
    split at h
    · cases h; exact .inr hp
    · exact .inl h
  pv _ h := .inl h
  pvu _ h := h
  keep a u h _ := by rw [upd_ne (ne_of_none h hp)]; exact h
  live a h := upd_live h
theorem KVs.step {κ : Type} (hS : SOk K ρ S H) (st : Stp ρ ρ' H H') : ∀ (l : List (κ × D)) (vs : List (κ × V)), KVs K ρ H l vs → KVs K ρ' H' l vs
  | [], _, h => h
  | d :: ds, _, h => by obtain ⟨v, r, e, h1, h2⟩ := h; exact ⟨v, r, e, Rp.step hS st _ _ h1, KVs.step hS st ds r h2⟩
/-- the object at n stays as it is through a step that leaves it -/
theorem OOk.step {a : Addr} {o : O} (hS : SOk K ρ S H) (st : Stp ρ ρ' H H') (e : H' a = H a) (h : OOk K ρ H a o) : OOk K ρ' H' a o := by
  cases o with
  | lst l => obtain ⟨vs, h1, h2⟩ := h; exact ⟨vs, by rw [e]; exact h1, Rps.step hS st l vs h2⟩
  | dct l => obtain ⟨vs, h1, h2⟩ := h; exact ⟨vs, by rw [e]; exact h1, KVs.step hS st l vs h2⟩
  | dcT l => obtain ⟨vs, h1, h2⟩ := h; exact ⟨vs, by rw [e]; exact h1, KVs.step hS st l vs h2⟩
  | ins C l => obtain ⟨dx, vs, h1, h2⟩ := h; exact ⟨dx, vs, by rw [e]; exact h1, KVs.step hS st l vs h2⟩
theorem new_sok {p : Addr} {ho : HO} {o : O} (hS : SOk K ρ S H) (hp : H p = none) (ok : OOk K (ρ.put S.length p) (upd H p ho) p o) : SOk K (ρ.put S.length p) (S ++ [o]) (upd H p ho) := by
  have st : Stp ρ (ρ.put S.length p) H (upd H p ho) := new_step hS hp
  have at_ : (ρ.put S.length p).m S.length = some p := by unfold Rho.put; simp
  refine ⟨fun n m a h1 h2 => ?_, fun n a h => ?_, fun n o' e => ?_, fun a h => ?_⟩
  · unfold Rho.put at h1 h2
    simp only at h1 h2
    split at h1 <;> split at h2
    · omega
    · cases h1
      obtain ⟨u, hu, _⟩ := hS.mk' h2
      rw [hp] at hu; cases hu
    · cases h2
      obtain ⟨u, hu, _⟩ := hS.mk' h1
      rw [hp] at hu; cases hu
    · exact hS.inj n m a h1 h2
  · unfold Rho.put at h
    simp only at h
    rw [List.length_append]
    split at h
    · simp; omega
    · have := hS.dom n a h; simp; omega
  · by_cases hn : n < S.length
    · rw [List.getElem?_append_left hn] at e
      obtain ⟨a, ha, ok'⟩ := hS.obj n o' e
      obtain ⟨u, hu, _⟩ := hS.mk' ha
      exact ⟨a, st.up n a ha, ok'.step hS st (upd_ne (ne_of_none hu hp))⟩
    · have hn' : n = S.length := by
        have := (List.getElem?_eq_some_iff.mp e).1
        simp at this; omega
      subst hn'
      simp at e
      subst e
      exact ⟨p, at_, ok⟩
  · obtain ⟨⟨u, h1, h2⟩, h3⟩ := hS.prv a h
    refine ⟨⟨u, by rw [upd_ne (ne_of_none h1 hp)]; exact h1, h2⟩, fun n z => ?_⟩
    unfold Rho.put at z
    simp only at z
    split at z
    · cases z; rw [hp] at h1; cases h1
    · exact h3 n z
/-- a new list that may change -/
theorem new_loc {p : Addr} {l : List D} {vs : List V} {Q : VK} (hS : SOk K ρ S H) (r : Rps K ρ H l vs) (hp : H p = none)
    (h : Post K W (Rp K) ρ H σ (R.new (.lst l) S) Q) : Q (.ref p) (upd H p (.lst vs)) := by
  have st : Stp ρ (ρ.put S.length p) H (upd H p (.lst vs)) := new_step hS hp
  exact h (ρ.put S.length p) _ (.ref p) (new_sok hS hp ⟨vs, upd_same, Rps.step hS st l vs r⟩) st ⟨p, rfl, by unfold Rho.put; simp⟩
end
section
variable {X : Cx} {W : WX} {a b c : Expr} {ma mb mc : TM} {n : AM} {pos : Pos} {es : List Expr}
theorem a_nil : DA X W [] aNil := ⟨PA.imp pa_nil fun σ H Q ⟨ρ, S, env, hS, hE, h⟩ => h ρ H [] hS .refl rfl⟩
theorem a_cons (h : DE X W a ma) (k : DA X W es n) (hs : starEach (a :: es) X.env = (false, eval a X.env) :: starEach es X.env := by rfl) : DA X W (a :: es) (aCons ma n) :=
  ⟨PA.imp (pa_cons h.p k.p hs) fun σ H Q ⟨ρ, S, env, hS, hE, h⟩ => by
    refine Post.bindK hS hE h fun x H1 ρ1 S1 d1 hS1 hE1 st1 r1 h1 => ?_
    refine Post.bindK hS1 hE1 h1 fun y H2 ρ2 S2 l hS2 hE2 st2 r2 h2 => ?_
    exact h2 ρ2 H2 (x :: y) hS2 .refl ⟨x, y, rfl, r1.step hS1 st2, r2⟩⟩
theorem d_tup {k : Nat} (h : DA X W es n) : DE X W (.Tuple es k pos) (mTup n) :=
  ⟨PE.imp (pe_tup h.p) fun σ H Q ⟨ρ, S, env, hS, hE, h⟩ => by
    refine Post.bindK hS hE h fun y H2 ρ2 S2 l hS2 hE2 st2 r2 h2 => ?_
    split at h2
    · rename_i hl
      exact ⟨by rw [sizeLine16, ← r2.length]; exact hl, fun p hp => new_tup hS2 r2 hp h2⟩
    · exact h2.elim⟩
theorem d_lst (h : DA X W es n) : DE X W (.List es pos) (mLst n) :=
  ⟨PE.imp (pe_lst h.p) fun σ H Q ⟨ρ, S, env, hS, hE, h⟩ => by
    refine Post.bindK hS hE h fun y H2 ρ2 S2 l hS2 hE2 st2 r2 h2 => ?_
    split at h2
    · rename_i hl
      exact ⟨by rw [sizeLine16, ← r2.length]; exact hl, fun p hp => new_lst hS2 r2 hp h2⟩
    · exact h2.elim⟩
theorem d_new (h : DA X W es n) : DE X W (.List es pos) (mNew n) :=
  ⟨PE.imp (pe_lst h.p) fun σ H Q ⟨ρ, S, env, hS, hE, h⟩ => by
    refine Post.bindK hS hE h fun y H2 ρ2 S2 l hS2 hE2 st2 r2 h2 => ?_
    split at h2
    · rename_i hl
      exact ⟨by rw [sizeLine16, ← r2.length]; exact hl, fun p hp => new_loc hS2 r2 hp h2⟩
    · exact h2.elim⟩
end
/-! ### slices -/
def oNone : En → Sto → R (Option Int) := fun _ S => .ok none S
def oSome (m : TM) : En → Sto → R (Option Int) := fun env S => (m env S).bind fun a S1 => match a with
  | .int i => .ok (some i) S1
  | _ => .bad
def relO : Rel (Option Int) (Option Int) := fun _ _ a b => a = b
def cutD (l : List D) (lo hi : Option Int) : List D := (l.drop (HT.sIx l.length 0 lo)).take (HT.sIx l.length l.length hi - HT.sIx l.length 0 lo)
def slD (S : Sto) (a : D) (lo hi : Option Int) : Option D := match der S a with
  | .tup l => some (.tup (cutD l lo hi))
  | .lst l => some (.lst (cutD l lo hi))
  | .wls l => some (.lst (cutD l lo hi))
  | _ => none
def mSl (m : TM) (lo hi : En → Sto → R (Option Int)) : TM := fun env S => (m env S).bind fun a S1 => (lo env S1).bind fun l S2 => (hi env S2).bind fun u S3 => R.of (slD S3 a l u) S3
structure DO (X : Cx) (W : WX) (e : Option Expr) (m : En → Sto → R (Option Int)) : Prop where
  p : PO X e (tG X.K W relO m)
section
variable {X : Cx} {W : WX} {a b c : Expr} {ma mb mc : TM} {n : AM} {pos p2 : Pos} {lo hi : Option Expr} {ml mh : En → Sto → R (Option Int)}
theorem PO.imp {e : Option Expr} {t t' : TO} (h : PO X e t) (i : ∀ σ H Q, t' σ H Q → t σ H Q) : PO X e t' := ⟨fun pins s σ H Q I q => h.run pins s σ H Q I (i σ H Q q)⟩
theorem o_none : DO X W none oNone := ⟨PO.imp po_none fun σ H Q ⟨ρ, S, env, hS, hE, h⟩ => h ρ H none hS .refl rfl⟩
theorem o_some (h : DE X W a ma) : DO X W (some a) (oSome ma) :=
  ⟨PO.imp (po_some h.p) fun σ H Q ⟨ρ, S, env, hS, hE, h⟩ => Post.bindK hS hE h fun x H1 ρ1 S1 d1 hS1 hE1 st1 r1 h1 => by
    cases d1 with
    | int i => cases r1; exact ⟨i, rfl, h1 ρ1 H1 (some i) hS1 .refl rfl⟩
    | _ => exact h1.elim⟩
theorem Rps.cut {K : PySem.W.Frag} {ρ : Rho} {H : Hp} {l : List D} {vs : List V} (h : Rps K ρ H l vs) (lo hi : Option Int) : Rps K ρ H (cutD l lo hi) (cutV vs lo hi) := by
  unfold cutD cutV
  rw [← h.length]
  exact (h.drop _).take _
theorem d_sl (h : DE X W a ma) (hl : DO X W lo ml) (hu : DO X W hi mh) : DE X W (.Subscript a (.Slice lo hi none p2) pos) (mSl ma ml mh) :=
  ⟨PE.imp (pe_slice (SlR.or sl_tupA sl_list) h.p hl.p hu.p) fun σ H Q ⟨ρ, S, env, hS, hE, h⟩ => by
    refine Post.bindK hS hE h fun x H1 ρ1 S1 d1 hS1 hE1 st1 r1 h1 => ?_
    refine Post.bindK hS1 hE1 h1 fun y H2 ρ2 S2 o1 hS2 hE2 st2 r2 h2 => ?_
    refine Post.bindK hS2 hE2 h2 fun z H3 ρ3 S3 o2 hS3 hE3 st3 r3 h3 => ?_
    cases r2; cases r3
    have r1' := (r1.step hS1 st2).step hS2 st3
    cases e : slD S3 d1 y z with
    | none => rw [e] at h3; exact h3.elim
    | some d =>
      rw [e] at h3
      unfold slD at e
      have lists : ∀ (p1 : Addr) (xs : List V) (l : List D), x = .ref p1 → SqL X.K H3 p1 xs → Rps X.K ρ3 H3 l xs → d = .lst (cutD l y z) → rSlL X.K x y z H3 Q := by
        intro p1 xs l ex hx rr ed
        subst ex ed
        exact ⟨p1, xs, rfl, hx, fun p hp => new_lst hS3 (rr.cut y z) hp h3⟩
      cases d1 with
      | tup l =>
        cases e
        obtain ⟨p1, xs, rfl, hx, rr⟩ := r1'
        refine .inl ⟨p1, xs, rfl, hx.sq, fun hw => ?_, fun _ p hp => new_tup hS3 (rr.cut y z) hp h3⟩
        refine h3 ρ3 H3 (.ref p1) hS3 .refl ⟨p1, xs, rfl, hx, ?_⟩
        have : cutD l y z = l := by
          unfold cutD
          rw [rr.length, hw.1, hw.2]
          rw [List.drop_zero, Nat.sub_zero, ← rr.length, List.take_length]
        rw [this]; exact rr
      | lst l =>
        cases e
        obtain ⟨p1, xs, ex, hx, _, rr⟩ := r1'
        exact .inr (lists p1 xs l ex (SqL.of hx) rr rfl)
      | wls l =>
        cases e
        obtain ⟨p1, xs, ex, hx, rr⟩ := r1'
        exact .inr (lists p1 xs l ex hx.sq rr rfl)
      | loc n =>
        obtain ⟨p1, ex, hx⟩ := r1'
        unfold der at e
        simp only at e
        cases hn : S3[n]? with
        | none => rw [hn] at e; cases e
        | some o =>
          rw [hn] at e
          cases o with
          | lst l =>
            cases e
            obtain ⟨a1, e1, xs, hx', rr⟩ := hS3.obj n _ hn
            rw [hx] at e1; cases e1
            exact .inr (lists p1 xs l ex (SqL.of hx') rr rfl)
          | _ => cases e
      | _ => cases e⟩
end
/-! ### built-in functions by values -/
abbrev GL := Sto → List D → Option D
def rL (K : PySem.W.Frag) (g : GL) : List V → Hp → VK → Prop := fun xs H Q => ∃ ρ S ds z, SOk K ρ S H ∧ Rps K ρ H ds xs ∧ g S ds = some z ∧
  ∀ ρ' H' v, SOk K ρ' S H' → Stp ρ ρ' H H' → Rp K ρ' H' z v → Q v H'
def mB (g : GL) (n : AM) : TM := fun env S => (n env S).bind fun ds S1 => R.of (g S1 ds) S1
section
variable {X : Cx} {W : WX} {e : Expr} {es : List Expr} {n : AM} {x : Str} {p pos : Pos} {id T : String} {g : GL}
theorem of_B {K : PySem.W.Frag} {σ : L2.St} {H : Hp} {Q : VK} (h : tE K W (mB g n) σ H Q) : tCB (rL K g) (tA K W n) σ H Q := by
  obtain ⟨ρ, S, env, hS, hE, h⟩ := h
  refine Post.bindK hS hE h fun x H1 ρ1 S1 ds hS1 hE1 st1 r1 h1 => ?_
  cases e : g S1 ds with
  | none => rw [e] at h1; exact h1.elim
  | some z => rw [e] at h1; exact ⟨ρ1, S1, ds, z, hS1, r1, e, h1⟩
theorem d_B (hc : CallR X (.builtin id) (rL X.K g)) (hg : Gl X x) (hm : X.mg x = none) (hv : bootBuiltins x = some (.builtin id)) (ha : DA X W (e :: es) n) (hn : x ≠ "__name__" := by decide) (hdb : (x == ("__debug__" : Str)) = false := by decide)
    (he : starEach (e :: es) X.env = (false, eval e X.env) :: starEach es X.env := by rfl) (hpl : (backTo pos (starEach es X.env)).any (·.1) = false := by rfl) : DE X W (.Call (.Name x p) (e :: es) [] pos) (mB g n) :=
  ⟨PE.imp (pe_callB hc hg hm hv ha.p hn hdb he hpl) fun σ H Q h => of_B h⟩
theorem d_Ty (hc : CallR X (.type T) (rL X.K g)) (hg : Gl X x) (hm : X.mg x = none) (hv : bootBuiltins x = some (.type T)) (ha : DA X W (e :: es) n) (hn : x ≠ "__name__" := by decide) (hdb : (x == ("__debug__" : Str)) = false := by decide)
    (he : starEach (e :: es) X.env = (false, eval e X.env) :: starEach es X.env := by rfl) (hpl : (backTo pos (starEach es X.env)).any (·.1) = false := by rfl) : DE X W (.Call (.Name x p) (e :: es) [] pos) (mB g n) :=
  ⟨PE.imp (pe_callTy hc hg hm hv ha.p hn hdb he hpl) fun σ H Q h => of_B h⟩
end
end Mi

namespace Mi
open PySem PySem.Spec PyProof.Rows L2
def intsD : List D → Option (List Int)
  | [] => some []
  | .int i :: ds => (intsD ds).map fun l => i :: l
  | _ => none
def blsD : List D → Option (List Bool)
  | [] => some []
  | .bl i :: ds => (blsD ds).map fun l => i :: l
  | _ => none
/-- the items of a list or tuple -/
def seqD (S : Sto) (d : D) : Option (List D) := match der S d with
  | .tup l => some l
  | .lst l => some l
  | .wls l => some l
  | _ => none
/-- the items of a list -/
def lstD (S : Sto) (d : D) : Option (List D) := match der S d with
  | .lst l => some l
  | .wls l => some l
  | _ => none
section
variable {K : PySem.W.Frag} {ρ : Rho} {S : Sto} {H : Hp}
theorem Rps.one {ds : List D} {v : V} (h : Rps K ρ H ds [v]) : ∃ d, ds = [d] ∧ Rp K ρ H d v := by
  cases ds with
  | nil => cases h
  | cons d ds =>
    obtain ⟨w, r, e, h1, h2⟩ := h
    cases e
    cases ds with
    | nil => exact ⟨d, rfl, h1⟩
    | cons d ds => obtain ⟨w, r, e, _⟩ := h2; cases e
theorem Rps.dest1 {d : D} {vs : List V} (h : Rps K ρ H [d] vs) : ∃ v, vs = [v] ∧ Rp K ρ H d v := by
  obtain ⟨v, r, e, h1, h2⟩ := h; cases h2; exact ⟨v, e, h1⟩
theorem Rps.dest2 {d e : D} {vs : List V} (h : Rps K ρ H [d, e] vs) : ∃ v u, vs = [v, u] ∧ Rp K ρ H d v ∧ Rp K ρ H e u := by
  obtain ⟨v, r, e1, h1, h2⟩ := h
  obtain ⟨u, e2, h3⟩ := h2.dest1
  subst e2
  exact ⟨v, u, e1, h1, h3⟩
theorem der_lst {d : D} {v : V} {l : List D} (hS : SOk K ρ S H) (h : Rp K ρ H d v) (e : lstD S d = some l) : ∃ p vs, v = .ref p ∧ SqL K H p vs ∧ Rps K ρ H l vs := by
  unfold lstD at e
  cases d with
  | lst l' => cases e; obtain ⟨p, vs, e1, h1, _, h2⟩ := h; exact ⟨p, vs, e1, SqL.of h1, h2⟩
  | wls l' => cases e; obtain ⟨p, vs, e1, h1, h2⟩ := h; exact ⟨p, vs, e1, h1.sq, h2⟩
  | loc n =>
    obtain ⟨p, e1, h1⟩ := h
    unfold der at e
    simp only at e
    cases hn : S[n]? with
    | none => rw [hn] at e; cases e
    | some o =>
      rw [hn] at e
      cases o with
      | lst l' =>
        cases e
        obtain ⟨a1, e2, xs, hx, rr⟩ := hS.obj n _ hn
        rw [h1] at e2; cases e2
        exact ⟨p, xs, e1, SqL.of hx, rr⟩
      | _ => cases e
  | _ => cases e
theorem der_seq {d : D} {v : V} {l : List D} (hS : SOk K ρ S H) (h : Rp K ρ H d v) (e : seqD S d = some l) : ∃ p vs, v = .ref p ∧ ((SqL K H p vs ∧ lstD S d = some l) ∨ (TLs K H p vs ∧ d = .tup l)) ∧ Rps K ρ H l vs := by
  have rest : (∀ l, d ≠ .tup l) → lstD S d = some l := by
    intro hd
    unfold seqD at e
    unfold lstD
    cases d with
    | tup l' => exact absurd rfl (hd l')
    | loc n =>
      unfold der at e ⊢
      simp only at e ⊢
      cases hn : S[n]? with
      | none => rw [hn] at e; cases e
      | some o => rw [hn] at e; cases o <;> first | exact e | cases e
    | lst l' => exact e
    | wls l' => exact e
    | _ => cases e
  by_cases hd : ∃ l, d = .tup l
  · obtain ⟨l', rfl⟩ := hd
    cases e
    obtain ⟨p, vs, e1, h1, h2⟩ := h
    exact ⟨p, vs, e1, .inr ⟨h1, rfl⟩, h2⟩
  · have e' := rest fun l z => hd ⟨l, z⟩
    obtain ⟨p, vs, e1, h1, h2⟩ := der_lst hS h e'
    exact ⟨p, vs, e1, .inl ⟨h1, e'⟩, h2⟩
theorem Rps.ints : ∀ {ds : List D} {vs : List V} {ns : List Int}, Rps K ρ H ds vs → intsD ds = some ns → vs = ns.map V.int
  | [], _, _, h, e => by cases h; cases e; rfl
  | .int i :: ds, _, ns, h, e => by
    obtain ⟨v, r, rfl, h1, h2⟩ := h
    unfold intsD at e
    cases q : intsD ds with
    | none => rw [q] at e; cases e
    | some l => rw [q] at e; cases e; cases h1; rw [Rps.ints h2 q]; rfl
  | .non :: _, _, _, _, e => by cases e
  | .bl _ :: _, _, _, _, e => by cases e
  | .str _ :: _, _, _, _, e => by cases e
  | .tup _ :: _, _, _, _, e => by cases e
  | .lst _ :: _, _, _, _, e => by cases e
  | .wls _ :: _, _, _, _, e => by cases e
  | .loc _ :: _, _, _, _, e => by cases e
  | .gl _ :: _, _, _, _, e => by cases e
  | .ty _ :: _, _, _, _, e => by cases e
  | .dic _ _ :: _, _, _, _, e => by cases e
  | .ftp _ :: _, _, _, _, e => by cases e
theorem Rps.bls : ∀ {ds : List D} {vs : List V} {ns : List Bool}, Rps K ρ H ds vs → blsD ds = some ns → vs = ns.map V.bl
  | [], _, _, h, e => by cases h; cases e; rfl
  | .bl i :: ds, _, ns, h, e => by
    obtain ⟨v, r, rfl, h1, h2⟩ := h
    unfold blsD at e
    cases q : blsD ds with
    | none => rw [q] at e; cases e
    | some l => rw [q] at e; cases e; cases h1; rw [Rps.bls h2 q]; rfl
  | .non :: _, _, _, _, e => by cases e
  | .int _ :: _, _, _, _, e => by cases e
  | .str _ :: _, _, _, _, e => by cases e
  | .tup _ :: _, _, _, _, e => by cases e
  | .lst _ :: _, _, _, _, e => by cases e
  | .wls _ :: _, _, _, _, e => by cases e
  | .loc _ :: _, _, _, _, e => by cases e
  | .gl _ :: _, _, _, _, e => by cases e
  | .ty _ :: _, _, _, _, e => by cases e
  | .dic _ _ :: _, _, _, _, e => by cases e
  | .ftp _ :: _, _, _, _, e => by cases e
theorem Rps.ofInts : ∀ {ns : List Int}, Rps K ρ H (ns.map D.int) (ns.map V.int)
  | [] => rfl
  | n :: ns => ⟨_, _, rfl, rfl, Rps.ofInts⟩
end
/-! ### len, abs, min, max, int, all, any, sum, list, tuple -/
def lenD : GL := fun S ds => match ds with
  | [.str x] => if x.length ≤ 16777216 then some (.int x.length) else none
  | [d] => (seqD S d).map fun l => .int l.length
  | _ => none
def absD : GL := fun _ ds => match ds with
  | [.int i] => some (.int (if i < 0 then -i else i))
  | _ => none
def max2D : GL := fun _ ds => match ds with
  | [.int i, .int j] => some (.int (if j > i then j else i))
  | _ => none
def min2D : GL := fun _ ds => match ds with
  | [.int i, .int j] => some (.int (if j < i then j else i))
  | _ => none
def intfD : GL := fun _ ds => match ds with
  | [.int i] => some (.int i)
  | [.bl b] => some (.int (if b then 1 else 0))
  | _ => none
def allD : GL := fun S ds => match ds with
  | [d] => (lstD S d).bind fun l => (blsD l).map fun bs => .bl (bs.all id)
  | _ => none
def anyD : GL := fun S ds => match ds with
  | [d] => (lstD S d).bind fun l => (blsD l).map fun bs => .bl (bs.any id)
  | _ => none
def sumD : GL := fun S ds => match ds with
  | [d] => (lstD S d).bind fun l => (intsD l).map fun bs => .int bs.sum
  | _ => none
def listD : GL := fun S ds => match ds with
  | [d] => (seqD S d).map .lst
  | _ => none
def tupleD : GL := fun S ds => match ds with
  | [d] => (seqD S d).map .tup
  | _ => none
section
variable {X : Cx}
theorem cD_len : CallR X (.builtin "len") (rL X.K lenD) := by
  intro pins s σ H xs us Q I r ⟨ρ, S, ds, z, hS, rd, e, q⟩
  unfold lenD at e
  split at e
  · split at e
    · rename_i x hl
      cases e
      obtain ⟨v, rfl, h1⟩ := rd.dest1
      cases h1
      exact call_len_str pins s σ H _ us Q I r ⟨_, rfl, by rw [sizeLine16]; exact hl, q ρ H _ hS .refl rfl⟩
    · cases e
  · rename_i d _
    cases hl : seqD S d with
    | none => rw [hl] at e; cases e
    | some l =>
      rw [hl] at e; cases e
      obtain ⟨v, rfl, h1⟩ := rd.dest1
      obtain ⟨p, vs, rfl, h2, h3⟩ := der_seq hS h1 hl
      exact call_len_seq pins s σ H _ us Q I r ⟨p, vs, rfl, h2.imp (·.1) (·.1.sq), q ρ H _ hS .refl (by show V.int _ = V.int _; rw [h3.length])⟩
  · cases e
theorem cD_abs : CallR X (.builtin "abs") (rL X.K absD) := by
  intro pins s σ H xs us Q I r ⟨ρ, S, ds, z, hS, rd, e, q⟩
  unfold absD at e
  split at e
  · cases e
    obtain ⟨v, rfl, h1⟩ := rd.dest1
    cases h1
    exact call_abs pins s σ H _ us Q I r ⟨_, rfl, q ρ H _ hS .refl rfl⟩
  · cases e
theorem cD_max2 (hc : X.calm = true) : CallR X (.builtin "max") (rL X.K max2D) := by
  intro pins s σ H xs us Q I r ⟨ρ, S, ds, z, hS, rd, e, q⟩
  unfold max2D at e
  split at e
  · cases e
    obtain ⟨v, u, rfl, h1, h2⟩ := rd.dest2
    cases h1; cases h2
    exact call_max2 hc pins s σ H _ us Q I r ⟨_, _, rfl, q ρ H _ hS .refl rfl⟩
  · cases e
theorem cD_min2 (hc : X.calm = true) : CallR X (.builtin "min") (rL X.K min2D) := by
  intro pins s σ H xs us Q I r ⟨ρ, S, ds, z, hS, rd, e, q⟩
  unfold min2D at e
  split at e
  · cases e
    obtain ⟨v, u, rfl, h1, h2⟩ := rd.dest2
    cases h1; cases h2
    exact call_min2 hc pins s σ H _ us Q I r ⟨_, _, rfl, q ρ H _ hS .refl rfl⟩
  · cases e
theorem cD_int : CallR X (.type "int") (rL X.K intfD) := by
  intro pins s σ H xs us Q I r ⟨ρ, S, ds, z, hS, rd, e, q⟩
  unfold intfD at e
  split at e
  · cases e
    obtain ⟨v, rfl, h1⟩ := rd.dest1
    cases h1
    exact call_int1 pins s σ H _ us Q I r (.inl ⟨_, rfl, q ρ H _ hS .refl rfl⟩)
  · cases e
    obtain ⟨v, rfl, h1⟩ := rd.dest1
    cases h1
    exact call_int1 pins s σ H _ us Q I r (.inr ⟨_, rfl, q ρ H _ hS .refl rfl⟩)
  · cases e
theorem cD_all (hc : X.calm = true) : CallR X (.builtin "all") (rL X.K allD) := by
  intro pins s σ H xs us Q I r ⟨ρ, S, ds, z, hS, rd, e, q⟩
  unfold allD at e
  split at e
  · rename_i d
    cases hl : lstD S d with
    | none => rw [hl] at e; cases e
    | some l =>
      rw [hl] at e
      cases hb : blsD l with
      | none => simp [hb] at e
      | some bs =>
        simp only [Option.bind_some, hb, Option.map_some, Option.some.injEq] at e
        subst e
        obtain ⟨v, rfl, h1⟩ := rd.dest1
        obtain ⟨p, vs, rfl, h2, h3⟩ := der_lst hS h1 hl
        have := h3.bls hb; subst this
        exact cr_all hc pins s σ H _ us Q I r ⟨p, bs, rfl, h2, q ρ H _ hS .refl rfl⟩
  · cases e
theorem cD_any (hc : X.calm = true) : CallR X (.builtin "any") (rL X.K anyD) := by
  intro pins s σ H xs us Q I r ⟨ρ, S, ds, z, hS, rd, e, q⟩
  unfold anyD at e
  split at e
  · rename_i d
    cases hl : lstD S d with
    | none => rw [hl] at e; cases e
    | some l =>
      rw [hl] at e
      cases hb : blsD l with
      | none => simp [hb] at e
      | some bs =>
        simp only [Option.bind_some, hb, Option.map_some, Option.some.injEq] at e
        subst e
        obtain ⟨v, rfl, h1⟩ := rd.dest1
        obtain ⟨p, vs, rfl, h2, h3⟩ := der_lst hS h1 hl
        have := h3.bls hb; subst this
        exact cr_any hc pins s σ H _ us Q I r ⟨p, bs, rfl, h2, q ρ H _ hS .refl rfl⟩
  · cases e
theorem cD_sum (hc : X.calm = true) : CallR X (.builtin "sum") (rL X.K sumD) := by
  intro pins s σ H xs us Q I r ⟨ρ, S, ds, z, hS, rd, e, q⟩
  unfold sumD at e
  split at e
  · rename_i d
    cases hl : lstD S d with
    | none => rw [hl] at e; cases e
    | some l =>
      rw [hl] at e
      cases hb : intsD l with
      | none => simp [hb] at e
      | some bs =>
        simp only [Option.bind_some, hb, Option.map_some, Option.some.injEq] at e
        subst e
        obtain ⟨v, rfl, h1⟩ := rd.dest1
        obtain ⟨p, vs, rfl, h2, h3⟩ := der_lst hS h1 hl
        have := h3.ints hb; subst this
        exact cr_sum hc pins s σ H _ us Q I r ⟨p, bs, rfl, h2, q ρ H _ hS .refl rfl⟩
  · cases e
theorem cD_list : CallR X (.type "list") (rL X.K listD) := by
  intro pins s σ H xs us Q I r ⟨ρ, S, ds, z, hS, rd, e, q⟩
  unfold listD at e
  split at e
  · rename_i d
    cases hl : seqD S d with
    | none => rw [hl] at e; cases e
    | some l =>
      rw [hl] at e; cases e
      obtain ⟨v, rfl, h1⟩ := rd.dest1
      obtain ⟨p, vs, rfl, h2, h3⟩ := der_seq hS h1 hl
      exact call_list_of pins s σ H _ us Q I r ⟨p, vs, rfl, h2.imp (·.1) (·.1.sq), fun l hl => new_lst hS h3 hl q⟩
  · cases e
theorem cD_tuple : CallR X (.type "tuple") (rL X.K tupleD) := by
  intro pins s σ H xs us Q I r ⟨ρ, S, ds, z, hS, rd, e, q⟩
  unfold tupleD at e
  split at e
  · rename_i d
    cases hl : seqD S d with
    | none => rw [hl] at e; cases e
    | some l =>
      rw [hl] at e; cases e
      obtain ⟨v, rfl, h1⟩ := rd.dest1
      obtain ⟨p, vs, rfl, h2, h3⟩ := der_seq hS h1 hl
      refine call_tuple_of pins s σ H _ us Q I r ⟨p, vs, rfl, ?_⟩
      rcases h2 with ⟨h2, _⟩ | ⟨h2, _⟩
      · exact .inl ⟨h2, fun l hl => new_tup hS h3 hl q⟩
      · exact .inr ⟨h2.sq, q ρ H _ hS .refl ⟨p, vs, rfl, h2, h3⟩⟩
  · cases e
end
/-! ### isinstance with built-in types -/
def D.tyn (S : Sto) : D → Option String
  | .non => some "NoneType"
  | .bl _ => some "bool"
  | .int _ => some "int"
  | .str _ => some "str"
  | .tup _ => some "tuple"
  | .lst _ => some "list"
  | .wls _ => some "list"
  | .loc n => match S[n]? with
    | some (.lst _) => some "list"
    | some (.dct _) => some "dict"
    | some (.dcT _) => some "dict"
    | _ => none
  | .dic _ _ => some "dict"
  | _ => none
/-- isinstance for the built-in types that are asked here -/
def isiB (a b : String) : Bool := a == b || (a == "bool" && b == "int")
def askTys : List String := ["int", "bool", "str", "tuple", "list", "dict"]
def isiD : GL := fun S ds => match ds with
  | [d, .ty b] => if askTys.contains b = true then (d.tyn S).map fun a => .bl (isiB a b) else none
  | [d, .tup l] => match l with
    | [.ty b, .ty c] => if askTys.contains b = true ∧ askTys.contains c = true then (d.tyn S).map fun a => .bl (isiB a b || isiB a c) else none
    | _ => none
  | _ => none
theorem kit_all {K : PySem.W.Frag} {a b : String} (ha : a ∈ ["NoneType", "bool", "int", "str", "tuple", "list", "dict"]) (hb : b ∈ askTys) : PySem.W.kitOne K (.type a) (.type b) = some (isiB a b) := by
  have h : ∀ a ∈ ["NoneType", "bool", "int", "str", "tuple", "list", "dict"], ∀ b ∈ askTys, kitB a b = some (isiB a b) := by decide +kernel
  exact kit_ty (h a ha b hb)
theorem tyx_of {K : PySem.W.Frag} {ρ : Rho} {S : Sto} {H : Hp} {d : D} {v : V} {a : String} (hS : SOk K ρ S H) (h : Rp K ρ H d v) (e : d.tyn S = some a) : TyX K H v (.type a) ∧ a ∈ ["NoneType", "bool", "int", "str", "tuple", "list", "dict"] := by
  cases d with
  | non => cases h; cases e; exact ⟨.base .non, by decide⟩
  | bl b => cases h; cases e; exact ⟨.base (.bl b), by decide⟩
  | int b => cases h; cases e; exact ⟨.base (.int b), by decide⟩
  | str b => cases h; cases e; exact ⟨.base (.str b), by decide⟩
  | tup l =>
    cases e
    obtain ⟨p, vs, rfl, h1, _⟩ := h
    refine ⟨?_, by decide⟩
    rcases h1 with h1 | ⟨o, h1, _⟩ | ⟨o, its, n, hk, hc, _⟩
    · exact .base (.tup h1)
    · exact .fTuple h1
    · exact .kTuple hk hc
  | lst l =>
    cases e
    obtain ⟨p, vs, rfl, h1, _⟩ := h
    exact ⟨.base (.lst h1), by decide⟩
  | wls l =>
    cases e
    obtain ⟨p, vs, rfl, h1, _⟩ := h
    refine ⟨?_, by decide⟩
    rcases h1 with ⟨o, h1⟩ | ⟨o, its, n, hk, hc, _⟩
    · exact .base (.frz h1)
    · exact .kList hk hc
  | dic ks l =>
    cases e
    obtain ⟨p, vs, rfl, h1, _⟩ := h
    exact ⟨.base (.dK h1), by decide⟩
  | loc n =>
    obtain ⟨p, rfl, h1⟩ := h
    unfold D.tyn at e
    simp only at e
    cases hn : S[n]? with
    | none => rw [hn] at e; cases e
    | some o =>
      obtain ⟨a1, e2, ok⟩ := hS.obj n _ hn
      rw [h1] at e2; cases e2
      rw [hn] at e
      cases o with
      | lst l => cases e; obtain ⟨vs, h2, _⟩ := ok; exact ⟨.base (.lst h2), by decide⟩
      | dct l => cases e; obtain ⟨vs, h2, _⟩ := ok; exact ⟨.base (.dK h2), by decide⟩
      | dcT l => cases e; obtain ⟨vs, h2, _⟩ := ok; exact ⟨.base (.dT h2), by decide⟩
      | ins C l => cases e
  | _ => cases e
section
variable {X : Cx}
theorem cD_isi : CallR X (.builtin "isinstance") (rL X.K isiD) := by
  intro pins s σ H xs us Q I r ⟨ρ, S, ds, z, hS, rd, e, q⟩
  unfold isiD at e
  split at e
  · rename_i d b
    split at e
    · rename_i hb
      obtain ⟨v, u, rfl, h1, h2⟩ := rd.dest2
      cases h2
      cases ha : d.tyn S with
      | none => rw [ha] at e; cases e
      | some a =>
        rw [ha] at e; cases e
        obtain ⟨t1, t2⟩ := tyx_of hS h1 ha
        exact call_isi pins s σ H _ us Q I r ⟨v, _, _, _, _, rfl, .ty b, t1, kit_all t2 (by simpa using hb), q ρ H _ hS .refl rfl⟩
    · cases e
  · rename_i d l
    split at e
    · rename_i b c
      split at e
      · rename_i hb
        obtain ⟨v, u, rfl, h1, p, vs, rfl, h2, h3⟩ := rd.dest2
        obtain ⟨v1, v2, rfl, h4, h5⟩ := h3.dest2
        cases h4; cases h5
        cases ha : d.tyn S with
        | none => rw [ha] at e; cases e
        | some a =>
          rw [ha] at e; cases e
          obtain ⟨t1, t2⟩ := tyx_of hS h1 ha
          have k1 := kit_all (K := X.K) t2 (show b ∈ askTys by simpa using hb.1)
          have k2 := kit_all (K := X.K) t2 (show c ∈ askTys by simpa using hb.2)
          have k3 : PySem.W.kitAny X.K (.type a) [.type b, .type c] = some (isiB a b || isiB a c) := by
            refine kitAny_cons k1 (fun e1 => kitAny_cons k2 (fun e2 => ?_) fun e2 => ?_) fun e1 => by rw [e1]; rfl
            · rw [e1, e2]; exact kitAny_nil
            · rw [e1, e2]; rfl
          have pc : Paired ClsV [V.ty b, V.ty c] [.type b, .type c] := .cons (.ty b) (.cons (.ty c) .nil)
          rcases h2 with h2 | ⟨_, _, h2⟩ | ⟨⟨oc, od, dt, sl⟩, its, n, hk, hc, hd, hz, hv⟩
          · exact call_isiT pins s σ H _ us Q I r ⟨v, p, _, _, [.type b, .type c], _, rfl, h2, pc, t1, k3, q ρ H _ hS .refl rfl⟩
          · exact absurd List.mem_cons_self (h2 b)
          · simp only at hc hd
            subst hc hd
            have e4 := ClsV.all pc hv
            refine call_isiK pins s σ H _ us Q I r ⟨v, p, od, [.type b, .type c], n, sl, _, _, rfl, ?_, t1, k3, q ρ H _ hS .refl rfl⟩
            rw [hk, ← e4]
      · cases e
    · cases e
  · cases e
end
end Mi

namespace Mi
open PySem PySem.Spec PyProof.Rows L2
inductive RS where
  | nx (env : En) (S : Sto) | rt (d : D) (S : Sto) | bk (env : En) (S : Sto) | ct (env : En) (S : Sto) | exc (C : Addr) (fs : List (Str × D)) (env : En) (S : Sto) | bad
abbrev SM := En → Sto → RS
def RS.of {α : Type} (r : R α) (env : En) (f : α → Sto → RS) : RS := match r with
  | .ok a S => f a S
  | .exc C fs S => .exc C fs env S
  | .bad => .bad
@[simp] theorem RS.of_ok {α : Type} {a : α} {S : Sto} {env : En} {f : α → Sto → RS} : RS.of (R.ok a S) env f = f a S := rfl
@[simp] theorem RS.of_exc {α : Type} {C fs S} {env : En} {f : α → Sto → RS} : RS.of (R.exc C fs S : R α) env f = .exc C fs env S := rfl
@[simp] theorem RS.of_bad {α : Type} {env : En} {f : α → Sto → RS} : RS.of (R.bad : R α) env f = .bad := rfl
/-- a block: what follows a statement that ends by itself -/
def RS.seq (r : RS) (f : SM) : RS := match r with
  | .nx env S => f env S
  | r => r
@[simp] theorem RS.seq_nx {env S} {f : SM} : (RS.nx env S).seq f = f env S := rfl
@[simp] theorem RS.seq_rt {d S} {f : SM} : (RS.rt d S).seq f = .rt d S := rfl
@[simp] theorem RS.seq_bk {env S} {f : SM} : (RS.bk env S).seq f = .bk env S := rfl
@[simp] theorem RS.seq_ct {env S} {f : SM} : (RS.ct env S).seq f = .ct env S := rfl
@[simp] theorem RS.seq_exc {C fs env S} {f : SM} : (RS.exc C fs env S).seq f = .exc C fs env S := rfl
@[simp] theorem RS.seq_bad {f : SM} : RS.bad.seq f = .bad := rfl
section
variable {K : PySem.W.Frag} {W : WX} {ρ ρ' : Rho} {S S' : Sto} {H H' : Hp} {env : En} {σ : L2.St}
def SPost (K : PySem.W.Frag) (W : WX) (T : Ends) (ρ : Rho) (H : Hp) (r : RS) : Prop := match r with
  | .nx env' S' => ∀ ρ' H' σ', SOk K ρ' S' H' → Stp ρ ρ' H H' → EOk K ρ' H' env' σ' → T.nx σ' H'
  | .rt d S' => ∀ ρ' H' v, SOk K ρ' S' H' → Stp ρ ρ' H H' → Rp K ρ' H' d v → T.rt v H'
  | .bk env' S' => ∀ ρ' H' σ', SOk K ρ' S' H' → Stp ρ ρ' H H' → EOk K ρ' H' env' σ' → T.bk σ' H'
  | .ct env' S' => ∀ ρ' H' σ', SOk K ρ' S' H' → Stp ρ ρ' H H' → EOk K ρ' H' env' σ' → T.ct σ' H'
  | .exc C fs env' S' => ∀ ρ' H' σ' d vs, SOk K ρ' S' H' → Stp ρ ρ' H H' → EOk K ρ' H' env' σ' → ρ'.no d → H' d = some (.xd vs) → KVs K ρ' H' fs vs → W (.ref C) (some d) σ' H'
  | .bad => False
def tSt (K : PySem.W.Frag) (W : WX) (m : SM) : TS := fun T σ H => ∃ ρ S env, SOk K ρ S H ∧ EOk K ρ H env σ ∧ SPost K W T ρ H (m env S)
theorem SPost.step {T : Ends} {r : RS} (st : Stp ρ ρ' H H') (h : SPost K W T ρ H r) : SPost K W T ρ' H' r := by
  cases r with
  | nx env S => exact fun ρ2 H2 σ2 h1 h2 h3 => h ρ2 H2 σ2 h1 (st.trans h2) h3
  | rt d S => exact fun ρ2 H2 σ2 h1 h2 h3 => h ρ2 H2 σ2 h1 (st.trans h2) h3
  | bk env S => exact fun ρ2 H2 σ2 h1 h2 h3 => h ρ2 H2 σ2 h1 (st.trans h2) h3
  | ct env S => exact fun ρ2 H2 σ2 h1 h2 h3 => h ρ2 H2 σ2 h1 (st.trans h2) h3
  | exc C fs env S => exact fun ρ2 H2 σ2 d vs h1 h2 h3 h4 h5 h6 => h ρ2 H2 σ2 d vs h1 (st.trans h2) h3 h4 h5 h6
  | bad => exact h
/-- an expression ahead of a statement's end -/
theorem SPost.bindK {α β : Type} {rel : Rel α β} {m : En → Sto → R α} {f : α → Sto → RS} {T : Ends} {Q1 : β → Hp → Prop} (hS : SOk K ρ S H) (hE : EOk K ρ H env σ)
    (h : SPost K W T ρ H (RS.of (m env S) env f))
    (k : ∀ v H1 ρ1 S1 a, SOk K ρ1 S1 H1 → EOk K ρ1 H1 env σ → Stp ρ ρ1 H H1 → rel ρ1 H1 a v → SPost K W T ρ1 H1 (f a S1) → Q1 v H1) :
    tG K W rel m σ H Q1 := by
  refine ⟨ρ, S, env, hS, hE, ?_⟩
  revert h
  generalize m env S = r
  intro h
  cases r with
  | ok a S1 => exact fun ρ2 H2 v h1 h2 h3 => k v H2 ρ2 S1 a h1 (hE.step hS h2) h2 h3 (h.step h2)
  | exc C fs S1 => exact fun ρ2 H2 d vs h1 h2 h3 h4 h5 => h ρ2 H2 σ d vs h1 h2 (hE.step hS h2) h3 h4 h5
  | bad => exact h
theorem EOk.set {d : D} {v : V} {i : Nat} (h : EOk K ρ H env σ) (r : Rp K ρ H d v) : EOk K ρ H (env.set i (some d)) (σ.set i (some v)) := by
  refine ⟨by rw [List.length_set, List.length_set]; exact h.len, fun j e hj => ?_⟩
  by_cases hij : i = j
  · subst hij
    have hl : i < env.length := by
      have := (List.getElem?_eq_some_iff.mp hj).1
      simpa using this
    have hl2 : i < σ.length := by rw [← h.len]; exact hl
    rw [List.getElem?_set_self hl] at hj
    cases hj
    exact ⟨v, List.getElem?_set_self hl2, r⟩
  · rw [List.getElem?_set_ne hij] at hj
    obtain ⟨w, h1, h2⟩ := h.val j e hj
    exact ⟨w, by rw [List.getElem?_set_ne hij]; exact h1, h2⟩
theorem EOk.drop1 {i : Nat} (h : EOk K ρ H env σ) : EOk K ρ H (env.set i none) (σ.set i none) := by
  refine ⟨by rw [List.length_set, List.length_set]; exact h.len, fun j e hj => ?_⟩
  by_cases hij : i = j
  · subst hij
    have hl : i < env.length := by
      have := (List.getElem?_eq_some_iff.mp hj).1
      simpa using this
    rw [List.getElem?_set_self hl] at hj
    cases hj
  · rw [List.getElem?_set_ne hij] at hj
    obtain ⟨w, h1, h2⟩ := h.val j e hj
    exact ⟨w, by rw [List.getElem?_set_ne hij]; exact h1, h2⟩
end
structure DS (X : Cx) (W : WX) (st : Stmt) (m : SM) : Prop where
  p : PS X st (tSt X.K W m)
structure DB (X : Cx) (W : WX) (st : List Stmt) (m : SM) : Prop where
  p : PSs X st (tSt X.K W m)
/-! ### blocks and small statements -/
def sNil : SM := fun env S => .nx env S
def sSeq (m n : SM) : SM := fun env S => (m env S).seq n
def sRet (m : TM) : SM := fun env S => RS.of (m env S) env fun d S1 => .rt d S1
def sRetN : SM := fun _ S => .rt .non S
def sIf (t : BM) (m n : SM) : SM := fun env S => RS.of (t env S) env fun b S1 => if b = true then m env S1 else n env S1
def sDrop (m : TM) : SM := fun env S => RS.of (m env S) env fun _ S1 => .nx env S1
def sBk : SM := fun env S => .bk env S
def sCt : SM := fun env S => .ct env S
def sBad : SM := fun _ _ => .bad
section
variable {X : Cx} {W : WX} {st : Stmt} {rest : List Stmt} {m n : SM} {e c : Expr} {me : TM} {mc : BM} {pos : Pos} {x y : List Stmt}
theorem b_nil : DB X W [] sNil := ⟨PSs.imp pss_nil fun T σ H ⟨ρ, S, env, hS, hE, h⟩ => h ρ H σ hS .refl hE⟩
theorem b_cons (h : DS X W st m) (k : DB X W rest n) : DB X W (st :: rest) (sSeq m n) :=
  ⟨PSs.imp (pss_cons h.p k.p) fun T σ H ⟨ρ, S, env, hS, hE, h⟩ => ⟨ρ, S, env, hS, hE, by
    unfold sSeq at h
    revert h
    generalize m env S = r
    intro h
    cases r with
    | nx env1 S1 => exact fun ρ1 H1 σ1 h1 h2 h3 => ⟨ρ1, S1, env1, h1, h3, h.step h2⟩
    | rt d S1 => exact h
    | bk env1 S1 => exact h
    | ct env1 S1 => exact h
    | exc C fs env1 S1 => exact h
    | bad => exact h⟩⟩
theorem b_one (h : DS X W st m) : DB X W [st] m := ⟨pss_one h.p⟩
theorem s_ret (h : DE X W e me) : DS X W (.Return (some e) pos) (sRet me) :=
  ⟨PS.imp (ps_ret h.p) fun T σ H ⟨ρ, S, env, hS, hE, h⟩ => SPost.bindK hS hE h fun v H1 ρ1 S1 a h1 h2 h3 h4 h5 => h5 ρ1 H1 v h1 .refl h4⟩
theorem s_retN : DS X W (.Return none pos) sRetN := ⟨PS.imp ps_retN fun T σ H ⟨ρ, S, env, hS, hE, h⟩ => h ρ H .non hS .refl rfl⟩
theorem s_if (hc : DT X W c mc) (ha : DB X W x m) (hb : DB X W y n) : DS X W (.If c x y pos) (sIf mc m n) :=
  ⟨PS.imp (ps_if hc.p ha.p hb.p) fun T σ H ⟨ρ, S, env, hS, hE, h⟩ => SPost.bindK hS hE h fun v H1 ρ1 S1 a h1 h2 h3 h4 h5 => by
    cases h4
    cases v with
    | true => exact ⟨ρ1, S1, env, h1, h2, h5⟩
    | false => exact ⟨ρ1, S1, env, h1, h2, h5⟩⟩
theorem s_drop (h : DE X W e me) (hs : swapsWith e none pos.line X.env = pure false := by rfl) : DS X W (.Expr e pos) (sDrop me) :=
  ⟨PS.imp (ps_expr h.p hs) fun T σ H ⟨ρ, S, env, hS, hE, h⟩ => SPost.bindK hS hE h fun v H1 ρ1 S1 a h1 h2 h3 h4 h5 => h5 ρ1 H1 σ h1 .refl h2⟩
theorem s_pass : DS X W (.Pass pos) sNil := ⟨PS.imp ps_pass fun T σ H ⟨ρ, S, env, hS, hE, h⟩ => h ρ H σ hS .refl hE⟩
theorem s_bk : DS X W (.Break pos) sBk := ⟨PS.imp ps_break fun T σ H ⟨ρ, S, env, hS, hE, h⟩ => h ρ H σ hS .refl hE⟩
theorem s_ct : DS X W (.Continue pos) sCt := ⟨PS.imp ps_continue fun T σ H ⟨ρ, S, env, hS, hE, h⟩ => h ρ H σ hS .refl hE⟩
/-- a statement, a block that the proof never comes to -/
theorem s_bad : DS X W st sBad := ⟨PS.imp ps_never fun T σ H ⟨ρ, S, env, hS, hE, h⟩ => h⟩
end
/-! ### targets -/
abbrev GM := D → En → Sto → R En
def relE : Rel En L2.St := fun ρ H env σ => True
/-- what a target's slots may change -/
def Chg (is : List Nat) (σ σ' : L2.St) : Prop := σ'.length = σ.length ∧ ∀ i, i ∉ is → σ'[i]? = σ[i]?
def gD (K : PySem.W.Frag) (is : List Nat) (g : GM) : TG := fun v σ H Q => ∃ ρ S env d, SOk K ρ S H ∧ EOk K ρ H env σ ∧ Rp K ρ H d v ∧ ∃ env' S', g d env S = .ok env' S' ∧
  ∀ ρ' H' σ', SOk K ρ' S' H' → Stp ρ ρ' H H' → EOk K ρ' H' env' σ' → Chg is σ σ' → Q σ' H'
structure DG (X : Cx) (is : List Nat) (e : Expr) (g : GM) : Prop where
  p : PG X e (gD X.K is g)
theorem PG.imp {X : Cx} {e : Expr} {t t' : TG} (h : PG X e t) (i : ∀ v σ H Q, t' v σ H Q → t v σ H Q) : PG X e t' := ⟨fun pins s σ H v u Q I r q => h.run pins s σ H v u Q I r (i v σ H Q q)⟩
def gN (i : Nat) : GM := fun d env S => .ok (env.set i (some d)) S
def gT (gs : List GM) : GM := fun d env S => match seqD S d with
  | some l => go gs l env S
  | none => .bad
where go : List GM → List D → En → Sto → R En
  | [], [], env, S => .ok env S
  | g :: gs, d :: ds, env, S => (g d env S).bind fun env1 S1 => go gs ds env1 S1
  | _, _, _, _ => .bad
/-- several targets -/
def gsD (K : PySem.W.Frag) (is : List Nat) (gs : List GM) : TGs := fun vs σ H Q => ∃ ρ S env ds, SOk K ρ S H ∧ EOk K ρ H env σ ∧ Rps K ρ H ds vs ∧ ∃ env' S', gT.go gs ds env S = .ok env' S' ∧
  ∀ ρ' H' σ', SOk K ρ' S' H' → Stp ρ ρ' H H' → EOk K ρ' H' env' σ' → Chg is σ σ' → Q σ' H'
structure DGs (X : Cx) (is : List Nat) (es : List Expr) (gs : List GM) : Prop where
  p : PGs X es (gsD X.K is gs)
  n : gs.length = (assignEach es X.env).length
theorem PGs.imp {X : Cx} {e : List Expr} {t t' : TGs} (h : PGs X e t) (i : ∀ v σ H Q, t' v σ H Q → t v σ H Q) : PGs X e t' := ⟨fun pins s σ H v u Q I r q => h.run pins s σ H v u Q I r (i v σ H Q q)⟩
section
variable {X : Cx} {W : WX} {pos : Pos} {is js : List Nat} {e : Expr} {es : List Expr} {g : GM} {gs : List GM}
theorem Chg.refl {is : List Nat} {σ : L2.St} : Chg is σ σ := ⟨rfl, fun _ _ => rfl⟩
theorem Chg.trans {σ σ1 σ2 : L2.St} (a : Chg is σ σ1) (b : Chg js σ1 σ2) : Chg (is ++ js) σ σ2 :=
  ⟨b.1.trans a.1, fun i h => by
    rw [List.mem_append] at h
    rw [b.2 i fun z => h (.inr z), a.2 i fun z => h (.inl z)]⟩
theorem g_name {i : Nat} {x : Str} (hN : X.N.Nodup) (hi : X.N[i]? = some x) (hx : Loc X.env.scope x) (hf : X.fn x = true ∨ X.env.scope.names.lookup x = some .local) : DG X [i] (.Name x pos) (gN i) :=
  ⟨PG.imp (pg_name hN hi hx hf) fun v σ H Q ⟨ρ, S, env, d, hS, hE, r, env', S', e, q⟩ => by
    cases e
    refine q ρ H _ hS .refl (hE.set r) ⟨List.length_set, fun j hj => ?_⟩
    rw [List.getElem?_set_ne]
    intro z; subst z; exact hj List.mem_cons_self⟩
theorem gs_nil : DGs X [] [] [] := by
  refine ⟨PGs.imp pgs_nil fun vs σ H Q ⟨ρ, S, env, ds, hS, hE, r, env', S', e, q⟩ => ?_, rfl⟩
  cases ds with
  | nil => cases r; cases e; exact ⟨rfl, q ρ H σ hS .refl hE .refl⟩
  | cons d ds => cases e
theorem gs_cons (h : DG X is e g) (k : DGs X js es gs) (hs : (assignEach (e :: es) X.env).map (·.2) = assign e X.env :: (assignEach es X.env).map (·.2) := by rfl) : DGs X (is ++ js) (e :: es) (g :: gs) := by
  refine ⟨PGs.imp (pgs_cons h.p k.p hs) fun vs σ H Q ⟨ρ, S, env, ds, hS, hE, r, env', S', e, q⟩ => ?_, ?_⟩
  · cases ds with
    | nil => cases e
    | cons d ds =>
      obtain ⟨v, vr, rfl, h1, h2⟩ := r
      unfold gT.go at e
      cases hg : g d env S with
      | ok env1 S1 =>
        rw [hg] at e
        refine ⟨v, vr, rfl, ρ, S, env, d, hS, hE, h1, env1, S1, hg, fun ρ1 H1 σ1 hS1 st1 hE1 c1 => ?_⟩
        exact ⟨ρ1, S1, env1, ds, hS1, hE1, Rps.step hS st1 ds vr h2, env', S', e, fun ρ2 H2 σ2 hS2 st2 hE2 c2 => q ρ2 H2 σ2 hS2 (st1.trans st2) hE2 (c1.trans c2)⟩
      | exc C fs S1 => rw [hg] at e; cases e
      | bad => rw [hg] at e; cases e
  · have := congrArg List.length hs
    simp at this
    rw [List.length_cons, k.n, this]
theorem go_length : ∀ {gs : List GM} {ds : List D} {env env' : En} {S S' : Sto}, gT.go gs ds env S = .ok env' S' → ds.length = gs.length
  | [], [], _, _, _, _, _ => rfl
  | g :: gs, d :: ds, env, _, S, _, h => by
    unfold gT.go at h
    cases hg : g d env S with
    | ok env1 S1 => rw [hg] at h; rw [List.length_cons, List.length_cons, go_length h]
    | exc C fs S1 => rw [hg] at h; cases h
    | bad => rw [hg] at h; cases h
  | [], _ :: _, _, _, _, _, h => by cases h
  | _ :: _, [], _, _, _, _, h => by cases h
theorem PG.or {t t' : TG} (h : PG X e t) (k : PG X e t') : PG X e (fun v σ H Q => t v σ H Q ∨ t' v σ H Q) :=
  ⟨fun pins s σ H v u Q I r q => q.elim (h.run pins s σ H v u Q I r) (k.run pins s σ H v u Q I r)⟩
theorem g_tup {k : Nat} (hc : X.calm = true) (h : DGs X is es gs) (hst : (assignEach es X.env).findIdx? (·.1) = none := by rfl) : DG X is (.Tuple es k pos) (gT gs) :=
  ⟨PG.imp (PG.or (pg_tup hc h.p rfl hst) (pg_unl hc h.p rfl hst)) fun v σ H Q ⟨ρ, S, env, d, hS, hE, r, env', S', e, q⟩ => by
    unfold gT at e
    cases hl : seqD S d with
    | none => rw [hl] at e; cases e
    | some l =>
      rw [hl] at e
      obtain ⟨p, vs, rfl, h1, h2⟩ := der_seq hS r hl
      have hn : vs.length = (assignEach es X.env).length := by rw [← h2.length, go_length e, h.n]
      rcases h1 with ⟨h1, _⟩ | ⟨h1, _⟩
      · exact .inr ⟨p, vs, rfl, h1, hn, ρ, S, env, l, hS, hE, h2, env', S', e, q⟩
      · exact .inl ⟨p, vs, rfl, h1.sq, hn, ρ, S, env, l, hS, hE, h2, env', S', e, q⟩⟩
end
end Mi

namespace Mi
open PySem PySem.Spec PyProof.Rows L2
section
variable {K : PySem.W.Frag} {ρ ρ' : Rho} {S S' : Sto} {H H' : Hp} {a : Addr} {n : Nat} {o : O} {ho : HO}
/-- an object of the store is written -/
theorem upd_step (e : ρ.m n = some a) : Stp ρ ρ H (upd H a ho) where
  up _ _ h := h
  new _ _ h := .inl h
  pv _ h := .inl h
  pvu _ h := h
  keep b u h hn := by rw [upd_ne (fun z => hn n (by rw [z]; exact e))]; exact h
  live b h := upd_live h
theorem SOk.write (hS : SOk K ρ S H) (e : ρ.m n = some a) (ok : OOk K ρ (upd H a ho) a o) : SOk K ρ (S.set n o) (upd H a ho) := by
  have st : Stp ρ ρ H (upd H a ho) := upd_step e
  refine ⟨hS.inj, fun m b h => by rw [List.length_set]; exact hS.dom m b h, fun m o' h => ?_, fun b h => ?_⟩
  · by_cases hm : n = m
    · subst hm
      have hl := hS.dom n a e
      rw [List.getElem?_set_self hl] at h
      cases h
      exact ⟨a, e, ok⟩
    · rw [List.getElem?_set_ne hm] at h
      obtain ⟨b, hb, ok'⟩ := hS.obj m o' h
      refine ⟨b, hb, ok'.step hS st (upd_ne fun z => ?_)⟩
      subst z
      exact hm (hS.inj n m b e hb)
  · obtain ⟨⟨u, h1, h2⟩, h3⟩ := hS.prv b h
    exact ⟨⟨u, by rw [upd_ne (fun z => h3 n (by rw [z]; exact e))]; exact h1, h2⟩, h3⟩
theorem KVs.length {κ : Type} : ∀ {l : List (κ × D)} {vs : List (κ × V)}, KVs K ρ H l vs → l.length = vs.length
  | [], _, h => by cases h; rfl
  | d :: ds, _, h => by obtain ⟨v, r, rfl, _, h2⟩ := h; simp [KVs.length h2]
end
def putD {κ : Type} [DecidableEq κ] (l : List (κ × D)) (k : κ) (v : D) : List (κ × D) :=
  if (l.any fun kv => decide (kv.1 = k)) = true then l.map fun kv => if kv.1 = k then (kv.1, v) else kv else l ++ [(k, v)]
section
variable {K : PySem.W.Frag} {ρ ρ' : Rho} {S S' : Sto} {H H' : Hp}
theorem KVs.put {κ : Type} [DecidableEq κ] {l : List (κ × D)} {vs : List (κ × V)} {k : κ} {d : D} {v : V} (h : KVs K ρ H l vs) (r : Rp K ρ H d v) : KVs K ρ H (putD l k d) (putK vs k v) := by
  have any : ∀ {l : List (κ × D)} {vs : List (κ × V)}, KVs K ρ H l vs → (l.any fun kv => decide (kv.1 = k)) = vs.any fun kv => decide (kv.1 = k) := by
    intro l
    induction l with
    | nil => intro vs h; cases h; rfl
    | cons d ds ih => intro vs h; obtain ⟨v, r, rfl, _, h2⟩ := h; rw [List.any_cons, List.any_cons, ih h2]
  have map : ∀ {l : List (κ × D)} {vs : List (κ × V)}, KVs K ρ H l vs → KVs K ρ H (l.map fun kv => if kv.1 = k then (kv.1, d) else kv) (vs.map fun kv => if kv.1 = k then (kv.1, v) else kv) := by
    intro l
    induction l with
    | nil => intro vs h; cases h; rfl
    | cons e ds ih =>
      intro vs h
      obtain ⟨w, t, rfl, h1, h2⟩ := h
      rw [List.map_cons, List.map_cons]
      by_cases q : e.1 = k
      · simp only [q, if_true]
        exact ⟨v, _, rfl, r, ih h2⟩
      · simp only [q, if_false]
        exact ⟨w, _, rfl, h1, ih h2⟩
  have app : ∀ {l : List (κ × D)} {vs : List (κ × V)}, KVs K ρ H l vs → KVs K ρ H (l ++ [(k, d)]) (vs ++ [(k, v)]) := by
    intro l
    induction l with
    | nil => intro vs h; cases h; exact ⟨v, [], rfl, r, rfl⟩
    | cons e ds ih => intro vs h; obtain ⟨w, t, rfl, h1, h2⟩ := h; exact ⟨w, _, rfl, h1, ih h2⟩
  unfold putD putK
  rw [any h]
  split
  · exact map h
  · exact app h
end
/-! ### o[i] = v -/
def setD (S : Sto) (o i v : D) : Option Sto := match o with
  | .loc n => match S[n]? with
    | some (.lst l) => (intD i).bind fun k => (ixN l.length k).map fun j => S.set n (.lst (l.set j v))
    | some (.dct l) => if l.length < 16777216 then (keyD i).map fun k => S.set n (.dct (putD l k v)) else none
    | _ => none
  | _ => none
def rSetD (K : PySem.W.Frag) : V → V → V → Hp → (Hp → Prop) → Prop := fun o i v H Q => ∃ ρ S a b c S', SOk K ρ S H ∧ Rp K ρ H a o ∧ Rp K ρ H b i ∧ Rp K ρ H c v ∧ setD S a b c = some S' ∧
  ∀ ρ' H', SOk K ρ' S' H' → Stp ρ ρ' H H' → Q H'
theorem setD_ok {X : Cx} (hu : X.A.units + 1 < cLine) : PSet X (rSetD X.K) := by
  intro pins s σ H o i v ov iv u Q I ro ri rv ⟨ρ, S, a, b, c, S', hS, ra, rb, rc, e, q⟩
  unfold setD at e
  cases a with
  | loc n =>
    obtain ⟨p, rfl, h1⟩ := ra
    simp only at e
    cases hn : S[n]? with
    | none => rw [hn] at e; cases e
    | some ob =>
      obtain ⟨a1, e1, ok⟩ := hS.obj n _ hn
      rw [h1] at e1; cases e1
      rw [hn] at e
      cases ob with
      | lst l =>
        obtain ⟨xs, hx, r1⟩ := ok
        obtain ⟨k, rfl, e⟩ := rb.int' e
        cases hj : ixN l.length k with
        | none => rw [hj] at e; cases e
        | some j =>
          rw [hj] at e; cases e
          refine set_list pins s σ H _ _ v ov iv u Q I ro ri rv ⟨p, xs, k, j, rfl, rfl, hx, by rw [← r1.length]; exact hj, ?_⟩
          have st : Stp ρ ρ H (upd H p (.lst (xs.set j v))) := upd_step h1
          exact q ρ _ (hS.write h1 ⟨_, upd_same, Rps.step hS st _ _ (r1.set j rc)⟩) st
      | dct l =>
        obtain ⟨xs, hx, r1⟩ := ok
        simp only at e
        split at e
        · rename_i hl
          cases hk : keyD b with
          | none => rw [hk] at e; cases e
          | some k =>
            rw [hk] at e; cases e
            have ey := rb.key hk
            subst ey
            cases ro
            have st : Stp ρ ρ H (upd H p (.dK (putK xs k v))) := upd_step h1
            exact d_setItem hu I (DPut.k hx (by rw [sizeLine16, ← r1.length]; exact hl)) ri rv fun s4 I4 => ⟨_, I4, q ρ _ (hS.write h1 ⟨_, upd_same, KVs.step hS st _ _ (r1.put rc)⟩) st⟩
        · cases e
      | _ => cases e
  | _ => cases e
/-- a store to o[i] as a target: mo, mi are read behind the value -/
def gSet (mo mi : TM) : GM := fun d env S => (mo env S).bind fun o S1 => (mi env S1).bind fun i S2 => match setD S2 o i d with
  | some S3 => .ok env S3
  | none => .bad
section
variable {X : Cx} {W : WX} {pos pos' : Pos} {e o i tg : Expr} {me mo mi : TM} {is : List Nat} {g : GM} {n m : AM}
def W0 : WX := fun _ _ _ _ => False
/-- what is read without an exception -/
theorem noexc {α β : Type} {K : PySem.W.Frag} {rel : Rel α β} {ρ : Rho} {H : Hp} {σ : L2.St} {a : α} {S : Sto} {Q : β → Hp → Prop}
    (h : ∀ ρ' H' v, SOk K ρ' S H' → Stp ρ ρ' H H' → rel ρ' H' a v → Q v H') : Post K W0 rel ρ H σ (.ok a S) Q := h
theorem g_set (hu : X.A.units + 1 < cLine) (ho : DE X W0 o mo) (hi : DE X W0 i mi)
    (ha : ∀ v, assign (.Subscript o i pos) X.env v = (do
      let ov ← holding [v] (eval o X.env)
      let iv ← holding [v, ov] (eval i X.env)
      standAt pos
      holding [v, ov, iv] (setItem ov iv v)
      release [v, ov, iv] []) := by intro _; rfl) : DG X [] (.Subscript o i pos) (gSet mo mi) :=
  ⟨PG.imp (pg_sub ho.p hi.p (setD_ok hu) ha) fun v σ H Q ⟨ρ, S, env, d, hS, hE, r, env', S', e, q⟩ => by
    unfold gSet at e
    refine ⟨ρ, S, env, hS, hE, ?_⟩
    cases h1 : mo env S with
    | ok ob S1 =>
      rw [h1] at e
      intro ρ1 H1 v1 hS1 st1 r1
      refine ⟨ρ1, S1, env, hS1, hE.step hS st1, ?_⟩
      simp only [R.bind_ok] at e
      cases h2 : mi env S1 with
      | ok ib S2 =>
        rw [h2] at e
        intro ρ2 H2 v2 hS2 st2 r2
        simp only [R.bind_ok] at e
        cases h3 : setD S2 ob ib d with
        | none => rw [h3] at e; cases e
        | some S3 =>
          rw [h3] at e; cases e
          refine ⟨ρ2, S2, ob, ib, d, S', hS2, r1.step hS1 st2, r2, (r.step hS st1).step hS1 st2, h3, fun ρ3 H3 hS3 st3 => ?_⟩
          exact q ρ3 H3 σ hS3 ((st1.trans st2).trans st3) (((hE.step hS st1).step hS1 st2).step hS2 st3) .refl
      | exc C fs S2 => rw [h2] at e; cases e
      | bad => rw [h2] at e; cases e
    | exc C fs S1 => rw [h1] at e; cases e
    | bad => rw [h1] at e; cases e⟩
/-! ### assignments -/
def sAsg (m : TM) (g : GM) : SM := fun env S => RS.of (m env S) env fun d S1 => match g d env S1 with
  | .ok env' S' => .nx env' S'
  | _ => .bad
theorem s_asg (he : DE X W e me) (hg : DG X is tg g) (hs : swapsWithSole [tg] e pos.line X.env = pure false := by rfl) (hw : swappedStores [tg] e X.env = pure none := by rfl)
    (h1 : (assignEach [tg] X.env).map (·.2) = [assign tg X.env] := by rfl) : DS X W (.Assign [tg] e pos) (sAsg me g) :=
  ⟨PS.imp (ps_asg he.p hg.p hs hw h1) fun T σ H ⟨ρ, S, env, hS, hE, h⟩ => SPost.bindK hS hE h fun v H1 ρ1 S1 a h1 h2 h3 h4 h5 => by
    cases hg : g a env S1 with
    | ok env' S' => rw [hg] at h5; exact ⟨ρ1, S1, env, a, h1, h2, h4, env', S', hg, fun ρ2 H2 σ2 q1 q2 q3 _ => h5 ρ2 H2 σ2 q1 q2 q3⟩
    | exc C fs S' => rw [hg] at h5; exact h5.elim
    | bad => rw [hg] at h5; exact h5.elim⟩
theorem s_set {i : Nat} {x : Str} (hN : X.N.Nodup) (hi : X.N[i]? = some x) (hx : Loc X.env.scope x) (hf : X.fn x = true ∨ X.env.scope.names.lookup x = some .local) (he : DE X W e me)
    (hs : swapsWith e (some (.Name x pos')) pos.line X.env = pure false := by rfl) : DS X W (.Assign [.Name x pos'] e pos) (sAsg me (gN i)) :=
  ⟨PS.imp (ps_set hN hi hx he.p hs hf) fun T σ H ⟨ρ, S, env, hS, hE, h⟩ => SPost.bindK hS hE h fun v H1 ρ1 S1 a h1 h2 h3 h4 h5 => h5 ρ1 H1 _ h1 .refl (h2.set h4)⟩
/-- a, b = x, y of plain local names -/
def sPar (is : List Nat) (n : AM) : SM := fun env S => RS.of (n env S) env fun l S1 => if l.length = is.length then .nx ((is.zip l).foldl (fun en p => en.set p.1 (some p.2)) env) S1 else .bad
theorem s_par2 {i j : Nat} {x y : Str} {a b : Expr} {px py pt : Pos} {kt k2 pt2} (hc : X.calm = true) (hN : X.N.Nodup) (hi : X.N[i]? = some x) (hj : X.N[j]? = some y) (hij : i ≠ j)
    (hx : X.env.scope.names.lookup x = some .local) (hy : X.env.scope.names.lookup y = some .local) (ha : DA X W [a, b] n)
    (hw : swappedStores [.Tuple [.Name x px, .Name y py] kt pt] (.Tuple [a, b] k2 pt2) X.env = pure (some [x, y]) := by rfl)
    (hs : swapsWithSole [.Tuple [.Name x px, .Name y py] kt pt] (.Tuple [a, b] k2 pt2) pos.line X.env = pure false := by rfl) :
    DS X W (.Assign [.Tuple [.Name x px, .Name y py] kt pt] (.Tuple [a, b] k2 pt2) pos) (sPar [i, j] n) :=
  ⟨PS.imp (ps_par hc hN hi hj hij hx hy ha.p hw hs) fun T σ H ⟨ρ, S, env, hS, hE, h⟩ => SPost.bindK hS hE h fun v H1 ρ1 S1 l h1 h2 h3 h4 h5 => by
    split at h5
    · rename_i hl
      match l, hl with
      | [d1, d2], _ =>
        obtain ⟨v1, v2, rfl, r1, r2⟩ := h4.dest2
        exact ⟨v1, v2, rfl, h5 ρ1 H1 _ h1 .refl ((h2.set r1).set r2)⟩
    · exact h5.elim⟩
theorem s_par3 {i j l : Nat} {x y z : Str} {a b c : Expr} {px py pz pt : Pos} {kt k2 pt2} (hc : X.calm = true) (hN : X.N.Nodup) (hi : X.N[i]? = some x) (hj : X.N[j]? = some y) (hl : X.N[l]? = some z) (hij : i ≠ j) (hil : i ≠ l) (hjl : j ≠ l)
    (hx : X.env.scope.names.lookup x = some .local) (hy : X.env.scope.names.lookup y = some .local) (hz : X.env.scope.names.lookup z = some .local) (ha : DA X W [a, b, c] n)
    (hw : swappedStores [.Tuple [.Name x px, .Name y py, .Name z pz] kt pt] (.Tuple [a, b, c] k2 pt2) X.env = pure (some [x, y, z]) := by rfl)
    (hs : swapsWithSole [.Tuple [.Name x px, .Name y py, .Name z pz] kt pt] (.Tuple [a, b, c] k2 pt2) pos.line X.env = pure false := by rfl) :
    DS X W (.Assign [.Tuple [.Name x px, .Name y py, .Name z pz] kt pt] (.Tuple [a, b, c] k2 pt2) pos) (sPar [i, j, l] n) :=
  ⟨PS.imp (ps_par3 hc hN hi hj hl hij hil hjl hx hy hz ha.p hw hs) fun T σ H ⟨ρ, S, env, hS, hE, h⟩ => SPost.bindK hS hE h fun v H1 ρ1 S1 l h1 h2 h3 h4 h5 => by
    split at h5
    · rename_i hl
      match l, hl with
      | [d1, d2, d3], _ =>
        obtain ⟨v1, r, rfl, r1, hr⟩ := h4
        obtain ⟨v2, v3, rfl, r2, r3⟩ := Rps.dest2 hr
        exact ⟨v1, v2, v3, rfl, h5 ρ1 H1 _ h1 .refl (((h2.set r1).set r2).set r3)⟩
    · exact h5.elim⟩
/-- name op= e -/
def ipD (K : PySem.W.Frag) (g : G2) : TIp := rD K g
def sAug (i : Nat) (g : G2) (m : TM) : SM := fun env S => match env[i]? with
  | some (some a) => RS.of (m env S) env fun b S1 => match g S1 a b with
    | some c => .nx (env.set i (some c)) S1
    | none => .bad
  | _ => .bad
theorem s_aug {i : Nat} {x : Str} {op : Operator} {g : G2} (hN : X.N.Nodup) (hi : X.N[i]? = some x) (hx : Loc X.env.scope x) (hf : X.fn x = true ∨ X.env.scope.names.lookup x = some .local) (ho : PIp X op (ipD X.K g)) (he : DE X W e me) :
    DS X W (.AugAssign (.Name x pos') op e pos) (sAug i g me) :=
  ⟨PS.imp (ps_aug hN hi hx he.p ho hf) fun T σ H ⟨ρ, S, env, hS, hE, h⟩ => by
    unfold sAug at h
    split at h
    · rename_i a ha
      obtain ⟨v, h1, r1⟩ := hE.val i a ha
      refine ⟨v, h1, SPost.bindK hS hE h fun y H1 ρ1 S1 b hS1 hE1 st1 r2 h5 => ?_⟩
      cases hg : g S1 a b with
      | none => rw [hg] at h5; exact h5.elim
      | some c =>
        rw [hg] at h5
        exact ⟨ρ1, S1, a, b, c, hS1, r1.step hS st1, r2, hg, fun ρ2 H2 w hS2 st2 r3 => h5 ρ2 H2 _ hS2 st2 ((hE1.step hS1 st2).set r3)⟩
    · exact h.elim⟩
end
/-! ### methods of lists -/
abbrev GMt := Sto → D → List D → Option (D × Sto)
def rM (K : PySem.W.Frag) (g : GMt) : V → List V → Hp → VK → Prop := fun x xs H Q => ∃ ρ S d ds z S', SOk K ρ S H ∧ Rp K ρ H d x ∧ Rps K ρ H ds xs ∧ g S d ds = some (z, S') ∧
  ∀ ρ' H' v, SOk K ρ' S' H' → Stp ρ ρ' H H' → Rp K ρ' H' z v → Q v H'
/-- which built-in type a receiver has -/
def isT (S : Sto) (T : String) (d : D) : Bool := match d with
  | .str _ => T == "str"
  | .lst _ => T == "list"
  | .wls _ => T == "list"
  | .loc n => match S[n]? with
    | some (.lst _) => T == "list"
    | some (.dct _) => T == "dict"
    | some (.dcT _) => T == "dict"
    | _ => false
  | _ => false
theorem isT_ok {K : PySem.W.Frag} {ρ : Rho} {S : Sto} {H : Hp} {T : String} {d : D} {v : V} (hS : SOk K ρ S H) (r : Rp K ρ H d v) (e : isT S T d = true) : tyV K T v H := by
  unfold isT at e
  cases d with
  | str x => cases r; exact eq_of_beq e
  | lst l => obtain ⟨p, vs, rfl, h, _⟩ := r; exact .inl ⟨eq_of_beq e, vs, SqL.of h⟩
  | wls l => obtain ⟨p, vs, rfl, h, _⟩ := r; exact .inl ⟨eq_of_beq e, vs, h.sq⟩
  | loc n =>
    obtain ⟨p, rfl, h1⟩ := r
    simp only at e
    cases hn : S[n]? with
    | none => rw [hn] at e; cases e
    | some ob =>
      obtain ⟨a1, e1, ok⟩ := hS.obj n _ hn
      rw [h1] at e1; cases e1
      rw [hn] at e
      cases ob with
      | lst l => obtain ⟨xs, hx, _⟩ := ok; exact .inl ⟨eq_of_beq e, xs, SqL.of hx⟩
      | dct l => obtain ⟨xs, hx, _⟩ := ok; exact .inr (.inr (.inl ⟨eq_of_beq e, .inl ⟨xs, hx⟩⟩))
      | dcT l => obtain ⟨xs, hx, _⟩ := ok; exact .inr (.inr (.inl ⟨eq_of_beq e, .inr ⟨xs, hx⟩⟩))
      | ins C l => cases e
  | _ => cases e
def mM (T : String) (g : GMt) (m : TM) (n : AM) : TM := fun env S => (m env S).bind fun o S1 => if isT S1 T o = true then (n env S1).bind fun ds S2 => match g S2 o ds with
  | some (z, S3) => .ok z S3
  | none => .bad
  else .bad
section
variable {X : Cx} {W : WX} {pos apos : Pos} {e o : Expr} {es : List Expr} {me mo : TM} {n : AM} {g : GMt} {T id : String} {name : Str}
theorem d_bm0 (pa : PlainAttrs T) (slot : Slot T name id) (hty : typeOf (.builtin id) = pure (.type "method_descriptor")) (hm : MtR X id (rM X.K g)) (ho : DE X W o mo)
    (hbase : attributeBase o name X.env (eval o X.env) = eval o X.env := by rfl) (hline : (apos.endLine == pos.line) = true := by rfl) : DE X W (.Call (.Attribute o name apos) [] [] pos) (mM T g mo aNil) :=
  ⟨PE.imp (pe_bm0 pa slot hty hm ho.p hbase hline) fun σ H Q ⟨ρ, S, env, hS, hE, h⟩ => Post.bindK hS hE h fun x H1 ρ1 S1 d hS1 hE1 st1 r1 h1 => by
    split at h1
    · rename_i ht
      refine ⟨isT_ok hS1 r1 ht, ?_⟩
      simp only [aNil, R.bind_ok] at h1
      cases hg : g S1 d [] with
      | none => rw [hg] at h1; exact h1.elim
      | some z => rw [hg] at h1; exact ⟨ρ1, S1, d, [], z.1, z.2, hS1, r1, rfl, hg, h1⟩
    · exact h1.elim⟩
theorem d_bm (pa : PlainAttrs T) (slot : Slot T name id) (hty : typeOf (.builtin id) = pure (.type "method_descriptor")) (hm : MtR X id (rM X.K g)) (ho : DE X W o mo) (ha : DA X W (e :: es) n)
    (hbase : attributeBase o name X.env (eval o X.env) = eval o X.env := by rfl)
    (hfew : ((backTo pos (starEach (e :: es) X.env)).all (fun x => !x.1) && (backToKw pos (keywordEach [] X.env)).all (fun x => x.1.isSome)
      && decide ((e :: es).length + ([] : List Keyword).length + (if ([] : List Keyword).isEmpty then 0 else 1) < 30)) = true := by rfl)
    (hline : (apos.endLine == pos.line) = true := by rfl) (hs : starEach (e :: es) X.env = (false, eval e X.env) :: starEach es X.env := by rfl) (hplain : (backTo pos (starEach es X.env)).any (·.1) = false := by rfl) :
    DE X W (.Call (.Attribute o name apos) (e :: es) [] pos) (mM T g mo n) :=
  ⟨PE.imp (pe_bm pa slot hty hm ho.p ha.p hbase hfew hline hs hplain) fun σ H Q ⟨ρ, S, env, hS, hE, h⟩ => Post.bindK hS hE h fun x H1 ρ1 S1 d hS1 hE1 st1 r1 h1 => by
    split at h1
    · rename_i ht
      refine ⟨isT_ok hS1 r1 ht, Post.bindK hS1 hE1 h1 fun y H2 ρ2 S2 ds hS2 hE2 st2 r2 h2 => ?_⟩
      cases hg : g S2 d ds with
      | none => rw [hg] at h2; exact h2.elim
      | some z => rw [hg] at h2; exact ⟨ρ2, S2, d, ds, z.1, z.2, hS2, r1.step hS1 st2, r2, hg, h2⟩
    · exact h1.elim⟩
end
def appD : GMt := fun S o ds => match o, ds with
  | .loc n, [d] => match S[n]? with
    | some (.lst l) => if l.length < 16777216 then some (.non, S.set n (.lst (l ++ [d]))) else none
    | _ => none
  | _, _ => none
def popD : GMt := fun S o ds => match o with
  | .loc n => match S[n]? with
    | some (.lst l) => match ds with
      | [] => match l[l.length - 1]? with
        | some y => some (y, S.set n (.lst l.dropLast))
        | none => none
      | [.int i] => if 0 ≤ i ∧ i < 2 ^ 63 then match l[i.toNat]? with
        | some y => some (y, S.set n (.lst (l.eraseIdx i.toNat)))
        | none => none
        else none
      | _ => none
    | _ => none
  | _ => none
def insD : GMt := fun S o ds => match o, ds with
  | .loc n, [.int i, d] => match S[n]? with
    | some (.lst l) => if l.length < 16777216 ∧ 0 ≤ i ∧ i < 2 ^ 63 then some (.non, S.set n (.lst (l.take i.toNat ++ [d] ++ l.drop i.toNat))) else none
    | _ => none
  | _, _ => none
def extD : GMt := fun S o ds => match o, ds with
  | .loc n, [.lst m] => match S[n]? with
    | some (.lst l) => if l.length + m.length ≤ 16777216 then some (.non, S.set n (.lst (l ++ m))) else none
    | _ => none
  | _, _ => none
section
variable {X : Cx} {K : PySem.W.Frag} {ρ : Rho} {S : Sto} {H : Hp}
theorem Rps.dropLast {l : List D} {vs : List V} (h : Rps K ρ H l vs) : Rps K ρ H l.dropLast vs.dropLast := by
  rw [List.dropLast_eq_take, List.dropLast_eq_take, h.length]
  exact h.take _
theorem Rps.eraseIdx {l : List D} {vs : List V} (h : Rps K ρ H l vs) (i : Nat) : Rps K ρ H (l.eraseIdx i) (vs.eraseIdx i) := by
  rw [List.eraseIdx_eq_take_drop_succ, List.eraseIdx_eq_take_drop_succ]
  exact (h.take _).append (h.drop _)
theorem mD_app : MtR X "list.append" (rM X.K appD) := by
  intro pins s σ H x xs v us Q I rx rxs ⟨ρ, S, d, ds, z, S', hS, rd, rds, e, q⟩
  unfold appD at e
  split at e
  · rename_i n d
    split at e
    · rename_i l hn
      split at e
      · rename_i hl
        cases e
        obtain ⟨p, rfl, h1⟩ := rd
        obtain ⟨a1, e1, xs', hx, r1⟩ := hS.obj n _ hn
        rw [h1] at e1; cases e1
        obtain ⟨w, rfl, r2⟩ := rds.dest1
        have st : Stp ρ ρ H (upd H p (.lst (xs' ++ [w]))) := upd_step h1
        refine mt_append pins s σ H _ _ v us Q I rx rxs ⟨p, xs', w, rfl, rfl, hx, by rw [sizeLine16, ← r1.length]; exact hl, ?_⟩
        exact q ρ _ .non (hS.write h1 ⟨_, upd_same, Rps.step hS st _ _ (r1.append ⟨w, [], rfl, r2, rfl⟩)⟩) st rfl
      · cases e
    · cases e
  · cases e
theorem mD_pop : MtR X "list.pop" (rM X.K popD) := by
  intro pins s σ H x xs v us Q I rx rxs ⟨ρ, S, d, ds, z, S', hS, rd, rds, e, q⟩
  unfold popD at e
  split at e
  · rename_i n
    split at e
    · rename_i l hn
      obtain ⟨p, rfl, h1⟩ := rd
      obtain ⟨a1, e1, xs', hx, r1⟩ := hS.obj n _ hn
      rw [h1] at e1; cases e1
      split at e
      · split at e
        · rename_i y hy
          cases e; cases rds
          obtain ⟨w, hw, r2⟩ := r1.get hy
          have st : Stp ρ ρ H (upd H p (.lst xs'.dropLast)) := upd_step h1
          refine mt_pop pins s σ H _ _ v us Q I rx rxs ⟨p, xs', w, rfl, rfl, hx, by rw [← r1.length]; exact hw, ?_⟩
          exact q ρ _ w (hS.write h1 ⟨_, upd_same, Rps.step hS st _ _ r1.dropLast⟩) st (r2.step hS st)
        · cases e
      · rename_i i
        split at e
        · rename_i hi
          split at e
          · rename_i y hy
            cases e
            obtain ⟨w0, rfl, r0⟩ := rds.dest1
            cases r0
            obtain ⟨w, hw, r2⟩ := r1.get hy
            have hlt : i.toNat < xs'.length := (List.getElem?_eq_some_iff.mp hw).1
            have st : Stp ρ ρ H (upd H p (.lst (xs'.eraseIdx i.toNat))) := upd_step h1
            have hix : ixN xs'.length i = some i.toNat := by
              unfold ixN
              rw [if_pos hi.1, if_pos (by omega)]
            refine mt_popAt pins s σ H _ _ v us Q I rx rxs ⟨p, xs', i, i.toNat, w, rfl, rfl, hx, by have := hi.1; omega, hi.2, (ixN_seq hix).1, hw, ?_⟩
            exact q ρ _ w (hS.write h1 ⟨_, upd_same, Rps.step hS st _ _ (r1.eraseIdx _)⟩) st (r2.step hS st)
          · cases e
        · cases e
      · cases e
    · cases e
  · cases e
theorem mD_ins : MtR X "list.insert" (rM X.K insD) := by
  intro pins s σ H x xs v us Q I rx rxs ⟨ρ, S, d, ds, z, S', hS, rd, rds, e, q⟩
  unfold insD at e
  split at e
  · rename_i n i d
    split at e
    · rename_i l hn
      split at e
      · rename_i hl
        cases e
        obtain ⟨p, rfl, h1⟩ := rd
        obtain ⟨a1, e1, xs', hx, r1⟩ := hS.obj n _ hn
        rw [h1] at e1; cases e1
        obtain ⟨w0, w, rfl, r0, r2⟩ := rds.dest2
        cases r0
        have st : Stp ρ ρ H (upd H p (.lst (xs'.take i.toNat ++ [w] ++ xs'.drop i.toNat))) := upd_step h1
        refine mt_insert pins s σ H _ _ v us Q I rx rxs ⟨p, xs', i, w, rfl, rfl, hx, by rw [sizeLine16, ← r1.length]; exact hl.1, hl.2.1, hl.2.2, ?_⟩
        exact q ρ _ .non (hS.write h1 ⟨_, upd_same, Rps.step hS st _ _ (((r1.take _).append (es := [d]) (ws := [w]) ⟨w, [], rfl, r2, rfl⟩).append (r1.drop _))⟩) st rfl
      · cases e
    · cases e
  · cases e
theorem mD_ext : MtR X "list.extend" (rM X.K extD) := by
  intro pins s σ H x xs v us Q I rx rxs ⟨ρ, S, d, ds, z, S', hS, rd, rds, e, q⟩
  unfold extD at e
  split at e
  · rename_i n m
    split at e
    · rename_i l hn
      split at e
      · rename_i hl
        cases e
        obtain ⟨p, rfl, h1⟩ := rd
        obtain ⟨a1, e1, xs', hx, r1⟩ := hS.obj n _ hn
        rw [h1] at e1; cases e1
        obtain ⟨w, rfl, p2, ys, rfl, h2, n2, r2⟩ := rds.dest1
        have st : Stp ρ ρ H (upd H p (.lst (xs' ++ ys))) := upd_step h1
        refine mt_extend pins s σ H _ _ v us Q I rx rxs ⟨p, p2, xs', ys, rfl, rfl, hx, h2, by rw [sizeLine16, ← r1.length, ← r2.length]; exact hl, ?_⟩
        exact q ρ _ .non (hS.write h1 ⟨_, upd_same, Rps.step hS st _ _ (r1.append r2)⟩) st rfl
      · cases e
    · cases e
  · cases e
end
end Mi

namespace Mi
open PySem PySem.Spec PyProof.Rows L2 RZ
/-! ### what is walked: the items, and what must hold of the store at each turn -/
abbrev IM := En → Sto → R (List D × (Sto → Prop))
structure ItOk (K : PySem.W.Frag) (J : It) (l : List D) (gd : Sto → Prop) (ρ : Rho) (H : Hp) : Prop where
  goes : ∀ i ρ' S' H', i < l.length → SOk K ρ' S' H' → Stp ρ ρ' H H' → gd S' → J.go i H'
  stops : ∀ ρ' S' H', SOk K ρ' S' H' → Stp ρ ρ' H H' → gd S' → J.stop l.length H'
  yields : ∀ i ρ' S' H' x H2, i < l.length → SOk K ρ' S' H' → Stp ρ ρ' H H' → gd S' → J.yld i H' x H2 → ∃ d, l[i]? = some d ∧ SOk K ρ' S' H2 ∧ Stp ρ' ρ' H' H2 ∧ Rp K ρ' H2 d x
def tI (K : PySem.W.Frag) (W : WX) (m : IM) : TI := fun σ H Q => ∃ ρ S env, SOk K ρ S H ∧ EOk K ρ H env σ ∧ match m env S with
  | .ok (l, gd) S' => ∀ ρ' H' J, SOk K ρ' S' H' → Stp ρ ρ' H H' → ItOk K J l gd ρ' H' → Q J H'
  | .exc C fs S' => ∀ ρ' H' d vs, SOk K ρ' S' H' → Stp ρ ρ' H H' → ρ'.no d → H' d = some (.xd vs) → KVs K ρ' H' fs vs → W (.ref C) (some d) σ H'
  | .bad => False
structure DI (X : Cx) (W : WX) (tg e : Expr) (m : IM) : Prop where
  p : PI X tg e (tI X.K W m)
theorem PI.imp {X : Cx} {tg e : Expr} {t t' : TI} (h : PI X tg e t) (i : ∀ σ H Q, t' σ H Q → t σ H Q) : PI X tg e t' := ⟨fun pins s σ H Q I q => h.run pins s σ H Q I (i σ H Q q)⟩
theorem PI.or {X : Cx} {tg e : Expr} {t t' : TI} (h : PI X tg e t) (k : PI X tg e t') : PI X tg e (fun σ H Q => t σ H Q ∨ t' σ H Q) := ⟨fun pins s σ H Q I q => q.elim (h.run pins s σ H Q I) (k.run pins s σ H Q I)⟩
/-- a list, a tuple -/
def gdSeq (d : D) (l : List D) : Sto → Prop := match d with
  | .loc _ => fun S => seqD S d = some l
  | _ => fun _ => True
def iSeq (m : TM) : IM := fun env S => (m env S).bind fun d S1 => match seqD S1 d with
  | some l => .ok (l, gdSeq d l) S1
  | none => .bad
section
variable {K : PySem.W.Frag} {ρ ρ' : Rho} {S S' : Sto} {H H' : Hp}
/-- behind a step the items are those that the store tells -/
theorem seq_at {d : D} {v : V} {l : List D} {p : Addr} (hS : SOk K ρ S H) (r : Rp K ρ H d (.ref p)) (e : seqD S d = some l) (hS' : SOk K ρ' S' H') (st : Stp ρ ρ' H H') (g : gdSeq d l S') :
    ∃ vs, Rps K ρ' H' l vs ∧ ((SqL K H' p vs ∧ ∀ m, d ≠ .tup m) ∨ (SqT K H' p vs ∧ d = .tup l)) := by
  have r' := r.step hS st
  have e' : seqD S' d = some l := by
    cases d with
    | loc n => exact g
    | _ => exact e
  obtain ⟨q, vs, e2, h1, h2⟩ := der_seq hS' r' e'
  cases e2
  refine ⟨vs, h2, ?_⟩
  rcases h1 with ⟨h1, h3⟩ | ⟨h1, h3⟩
  · refine .inl ⟨h1, fun m z => ?_⟩
    subst z
    cases h3
  · exact .inr ⟨h1.sq, h3⟩
theorem YAt_get {l : List D} {vs : List V} {i : Nat} {x : V} (h : Rps K ρ H l vs) (e : vs[i]? = some x) : ∃ d, l[i]? = some d ∧ Rp K ρ H d x := by
  have hi : i < l.length := by rw [h.length]; exact (List.getElem?_eq_some_iff.mp e).1
  obtain ⟨v, h1, h2⟩ := h.get (d := l[i]) (i := i) (by simp [hi])
  rw [e] at h1; cases h1
  exact ⟨l[i], by simp [hi], h2⟩
theorem it_lst {d : D} {l : List D} {p : Addr} (hS : SOk K ρ S H) (r : Rp K ρ H d (.ref p)) (e : seqD S d = some l) (hd : ∀ m, d ≠ .tup m) : ItOk K (Itl K p) l (gdSeq d l) ρ H := by
  refine ⟨fun i ρ' S' H' hi hS' st g => ?_, fun ρ' S' H' hS' st g => ?_, fun i ρ' S' H' x H2 hi hS' st g y => ?_⟩
  all_goals
    obtain ⟨vs, h2, h1⟩ := seq_at (v := .ref p) hS r e hS' st g
    rcases h1 with ⟨h1, _⟩ | ⟨_, h3⟩
    case inr => exact absurd h3 (hd l)
  · exact ⟨vs, vs[i]'(by rw [← h2.length]; exact hi), h1, by simp [h2.length ▸ hi]⟩
  · exact ⟨vs, h1, by rw [h2.length]; exact Nat.le_refl _⟩
  · obtain ⟨e1, y⟩ := y
    subst e1
    obtain ⟨d', e2, r2⟩ := YAt_get h2 (y vs h1)
    exact ⟨d', e2, hS', .refl, r2⟩
theorem it_tup {l : List D} {p : Addr} (hS : SOk K ρ S H) (r : Rp K ρ H (.tup l) (.ref p)) : ItOk K (Itt K p) l (gdSeq (.tup l) l) ρ H := by
  refine ⟨fun i ρ' S' H' hi hS' st g => ?_, fun ρ' S' H' hS' st g => ?_, fun i ρ' S' H' x H2 hi hS' st g y => ?_⟩
  all_goals
    obtain ⟨vs, h2, h1⟩ := seq_at (v := .ref p) hS r rfl hS' st g
    rcases h1 with ⟨_, h3⟩ | ⟨h1, _⟩
    case inl => exact absurd rfl (h3 l)
  · exact ⟨vs, vs[i]'(by rw [← h2.length]; exact hi), h1, by simp [h2.length ▸ hi]⟩
  · exact ⟨vs, h1, by rw [h2.length]; exact Nat.le_refl _⟩
  · obtain ⟨e1, y⟩ := y
    subst e1
    obtain ⟨d', e2, r2⟩ := YAt_get h2 (y vs h1)
    exact ⟨d', e2, hS', .refl, r2⟩
end
section
variable {X : Cx} {W : WX} {tg e e2 : Expr} {m : TM} {n : AM} {p pos tpos : Pos} {elts : List Expr} {kk : Nat}
theorem tI.bindK {α β : Type} {K : PySem.W.Frag} {rel : Rel α β} {ρ : Rho} {S : Sto} {H : Hp} {env : En} {σ : L2.St} {m : En → Sto → R α} {f : α → Sto → R (List D × (Sto → Prop))} {Q : It → Hp → Prop} {Q1 : β → Hp → Prop} (hS : SOk K ρ S H) (hE : EOk K ρ H env σ)
    (h : match (m env S).bind f with
      | .ok (l, gd) S' => ∀ ρ' H' J, SOk K ρ' S' H' → Stp ρ ρ' H H' → ItOk K J l gd ρ' H' → Q J H'
      | .exc C fs S' => ∀ ρ' H' d vs, SOk K ρ' S' H' → Stp ρ ρ' H H' → ρ'.no d → H' d = some (.xd vs) → KVs K ρ' H' fs vs → W (.ref C) (some d) σ H'
      | .bad => False)
    (k : ∀ v H1 ρ1 S1 a, SOk K ρ1 S1 H1 → EOk K ρ1 H1 env σ → Stp ρ ρ1 H H1 → rel ρ1 H1 a v → (match f a S1 with
      | .ok (l, gd) S' => ∀ ρ' H' J, SOk K ρ' S' H' → Stp ρ1 ρ' H1 H' → ItOk K J l gd ρ' H' → Q J H'
      | .exc C fs S' => ∀ ρ' H' d vs, SOk K ρ' S' H' → Stp ρ1 ρ' H1 H' → ρ'.no d → H' d = some (.xd vs) → KVs K ρ' H' fs vs → W (.ref C) (some d) σ H'
      | .bad => False) → Q1 v H1) :
    tG K W rel m σ H Q1 := by
  refine ⟨ρ, S, env, hS, hE, ?_⟩
  revert h
  generalize m env S = r
  intro h
  cases r with
  | ok a S1 =>
    intro ρ2 H2 v h1 h2 h3
    refine k v H2 ρ2 S1 a h1 (hE.step hS h2) h2 h3 ?_
    simp only [R.bind_ok] at h
    revert h
    generalize f a S1 = r2
    intro h
    cases r2 with
    | ok b S2 => exact fun ρ' H' J q1 q2 q3 => h ρ' H' J q1 (h2.trans q2) q3
    | exc C fs S2 => exact fun ρ' H' d vs q1 q2 q3 q4 q5 => h ρ' H' d vs q1 (h2.trans q2) q3 q4 q5
    | bad => exact h
  | exc C fs S1 => exact h
  | bad => exact h
theorem i_seq (h : DE X W e m) : DI X W tg e (iSeq m) :=
  ⟨PI.imp (PI.or (pi_list h.p) (pi_tup h.p)) fun σ H Q ⟨ρ, S, env, hS, hE, h⟩ => by
    unfold iSeq at h
    cases hm : m env S with
    | ok d S1 =>
      rw [hm] at h
      simp only [R.bind_ok] at h
      cases hl : seqD S1 d with
      | none => rw [hl] at h; exact h.elim
      | some l =>
        rw [hl] at h
        by_cases hd : ∃ m, d = .tup m
        · obtain ⟨m', rfl⟩ := hd
          cases hl
          refine .inr ⟨ρ, S, env, hS, hE, ?_⟩
          rw [hm]
          intro ρ1 H1 v hS1 st1 r1
          obtain ⟨p, vs, rfl, h2, h3⟩ := id r1
          exact ⟨p, rfl, ⟨vs, h2.sq⟩, h ρ1 H1 _ hS1 st1 (it_tup hS1 r1)⟩
        · refine .inl ⟨ρ, S, env, hS, hE, ?_⟩
          rw [hm]
          intro ρ1 H1 v hS1 st1 r1
          obtain ⟨p, vs, rfl, h2, h3⟩ := der_seq hS1 r1 hl
          have hd' : ∀ m, d ≠ .tup m := fun m z => hd ⟨m, z⟩
          rcases h2 with ⟨h2, _⟩ | ⟨_, h4⟩
          · exact ⟨p, rfl, ⟨vs, h2⟩, h ρ1 H1 _ hS1 st1 (it_lst hS1 r1 hl hd')⟩
          · exact absurd h4 (hd' l)
    | exc C fs S1 =>
      rw [hm] at h
      refine .inl ⟨ρ, S, env, hS, hE, ?_⟩
      rw [hm]
      exact h
    | bad => rw [hm] at h; exact h.elim⟩
/-! range -/
def rangeD (lo : Int) (n : Nat) : List D := (List.range n).map fun (i : Nat) => D.int (lo + (i : Int))
def iRng1 (n : AM) : IM := fun env S => (n env S).bind fun ds S1 => match ds with
  | [.int j] => if -1000000000 ≤ j ∧ j ≤ 1000000000 then .ok (rangeD 0 j.toNat, fun _ => True) S1 else .bad
  | _ => .bad
def iRng2 (n : AM) : IM := fun env S => (n env S).bind fun ds S1 => match ds with
  | [.int i, .int j] => if -1000000000 ≤ i ∧ i ≤ 1000000000 ∧ -1000000000 ≤ j ∧ j ≤ 1000000000 then .ok (rangeD i (j - i).toNat, fun _ => True) S1 else .bad
  | _ => .bad
theorem rangeD_length {lo : Int} {n : Nat} : (rangeD lo n).length = n := by unfold rangeD; simp
theorem rangeD_get {lo : Int} {n i : Nat} (h : i < n) : (rangeD lo n)[i]? = some (D.int (lo + (i : Int))) := by unfold rangeD; simp [h]
theorem it_rng {K : PySem.W.Frag} {ρ : Rho} {H : Hp} {lo : Int} {n : Nat} : ItOk K (Itr lo n) (rangeD lo n) (fun _ => True) ρ H := by
  refine ⟨fun i _ _ _ hi _ _ _ => by rw [rangeD_length] at hi; exact hi, fun _ _ _ _ _ _ => by rw [rangeD_length]; exact Nat.le_refl _, fun i ρ' S' H' x H2 hi hS' st _ y => ?_⟩
  obtain ⟨e1, e2⟩ := y
  subst e1 e2
  rw [rangeD_length] at hi
  exact ⟨D.int (lo + (i : Int)), rangeD_get hi, hS', .refl, rfl⟩
theorem i_rng1 (hg : Gl X "range") (hm : X.mg "range" = none) (ha : DA X W [e] n) (hs : starEach [e] X.env = [(false, eval e X.env)] := by rfl) : DI X W tg (.Call (.Name "range" p) [e] [] pos) (iRng1 n) :=
  ⟨PI.imp (pi_range1 hg hm ha.p hs) fun σ H Q ⟨ρ, S, env, hS, hE, h⟩ => tI.bindK hS hE h fun v H1 ρ1 S1 ds hS1 hE1 st1 r1 h1 => by
    split at h1
    · rename_i l gd S' heq
      split at heq
      · split at heq
        · rename_i j hj
          cases heq
          obtain ⟨w, rfl, r2⟩ := r1.dest1
          cases r2
          exact ⟨j, rfl, by omega, by omega, h1 ρ1 H1 _ hS1 .refl it_rng⟩
        · cases heq
      · cases heq
    · rename_i heq
      split at heq
      · split at heq <;> cases heq
      · cases heq
    · exact h1.elim⟩
theorem i_rng2 (hg : Gl X "range") (hm : X.mg "range" = none) (ha : DA X W [e, e2] n) (hs : starEach [e, e2] X.env = [(false, eval e X.env), (false, eval e2 X.env)] := by rfl) (hs2 : starEach [e2] X.env = [(false, eval e2 X.env)] := by rfl) : DI X W tg (.Call (.Name "range" p) [e, e2] [] pos) (iRng2 n) :=
  ⟨PI.imp (pi_range2 hg hm ha.p hs hs2) fun σ H Q ⟨ρ, S, env, hS, hE, h⟩ => tI.bindK hS hE h fun v H1 ρ1 S1 ds hS1 hE1 st1 r1 h1 => by
    split at h1
    · rename_i l gd S' heq
      split at heq
      · split at heq
        · rename_i i j hj
          cases heq
          obtain ⟨w, w2, rfl, r2, r3⟩ := r1.dest2
          cases r2; cases r3
          exact ⟨i, j, rfl, ⟨by omega, by omega, by omega, by omega⟩, h1 ρ1 H1 _ hS1 .refl it_rng⟩
        · cases heq
      · cases heq
    · rename_i heq
      split at heq
      · split at heq <;> cases heq
      · cases heq
    · exact h1.elim⟩
/-! zip of two lists or of two tuples -/
def zipD (l m : List D) : List D := (l.zip m).map fun p => D.tup [p.1, p.2]
def iZipD (n : AM) : IM := fun env S => (n env S).bind fun ds S1 => match ds with
  | [.tup l, .tup m] => .ok (zipD l m, fun _ => True) S1
  | [a, b] => match lstD S1 a, lstD S1 b with
    | some l, some m => .ok (zipD l m, fun S => gdSeq a l S ∧ gdSeq b m S) S1
    | _, _ => .bad
  | _ => .bad
theorem zipD_length {l m : List D} : (zipD l m).length = min l.length m.length := by unfold zipD; simp
theorem zipD_get {l m : List D} {i : Nat} {x y : D} (h1 : l[i]? = some x) (h2 : m[i]? = some y) : (zipD l m)[i]? = some (D.tup [x, y]) := by
  unfold zipD
  rw [List.getElem?_map]
  have : (l.zip m)[i]? = some (x, y) := by
    rw [List.getElem?_zip_eq_some]
    exact ⟨h1, h2⟩
  rw [this]; rfl
theorem seqD_of_lst {S : Sto} {d : D} {l : List D} (h : lstD S d = some l) : seqD S d = some l := by
  unfold lstD at h
  unfold seqD
  split at h
  · rename_i l' hd; rw [hd]; exact h
  · rename_i l' hd; rw [hd]; exact h
  · cases h
section
variable {K : PySem.W.Frag} {ρ : Rho} {S : Sto} {H : Hp}
/-- a new pair -/
theorem new_pair {ρ' : Rho} {S' : Sto} {H' H2 : Hp} {T : Addr} {x y : V} {d e : D} (hS : SOk K ρ' S' H') (r1 : Rp K ρ' H' d x) (r2 : Rp K ρ' H' e y) (hT : H' T = none) (e2 : H2 = upd H' T (.tup [x, y])) :
    SOk K ρ' S' H2 ∧ Stp ρ' ρ' H' H2 ∧ Rp K ρ' H2 (.tup [d, e]) (.ref T) := by
  subst e2
  have rr : Rps K ρ' H' [d, e] [x, y] := ⟨x, [y], rfl, r1, y, [], rfl, r2, rfl⟩
  exact ⟨hS.alloc hT, .alloc hT, T, _, rfl, .inl upd_same, Rps.step hS (.alloc hT) _ _ rr⟩
theorem it_zipL {a b : D} {l m : List D} {p q : Addr} (hS : SOk K ρ S H) (r1 : Rp K ρ H a (.ref p)) (r2 : Rp K ρ H b (.ref q)) (e1 : lstD S a = some l) (e2 : lstD S b = some m) (n1 : ∀ k, a ≠ .tup k) (n2 : ∀ k, b ≠ .tup k) :
    ItOk K (Itz K p q) (zipD l m) (fun S => gdSeq a l S ∧ gdSeq b m S) ρ H := by
  refine ⟨fun i ρ' S' H' hi hS' st g => ?_, fun ρ' S' H' hS' st g => ?_, fun i ρ' S' H' x H2 hi hS' st g y => ?_⟩
  all_goals
    obtain ⟨vs, h2, h1⟩ := seq_at (v := .ref p) hS r1 (seqD_of_lst e1) hS' st g.1
    obtain ⟨ws, h4, h3⟩ := seq_at (v := .ref q) hS r2 (seqD_of_lst e2) hS' st g.2
    rcases h1 with ⟨h1, _⟩ | ⟨_, h5⟩
    case inr => exact absurd h5 (n1 l)
    rcases h3 with ⟨h3, _⟩ | ⟨_, h5⟩
    case inr => exact absurd h5 (n2 m)
  · rw [zipD_length] at hi
    have i1 : i < vs.length := by rw [← h2.length]; omega
    have i2 : i < ws.length := by rw [← h4.length]; omega
    exact ⟨vs, ws, vs[i], ws[i], h1, h3, by simp [i1], by simp [i2]⟩
  · rw [zipD_length]
    exact ⟨vs, ws, h1, h3, by rw [← h2.length, ← h4.length]; omega⟩
  · obtain ⟨T, x1, y1, rfl, hT, e3, y2, y3⟩ := y
    obtain ⟨d1, g1, s1⟩ := YAt_get h2 (y2 vs h1)
    obtain ⟨d2, g2, s2⟩ := YAt_get h4 (y3 ws h3)
    obtain ⟨q1, q2, q3⟩ := new_pair hS' s1 s2 hT e3
    exact ⟨_, zipD_get g1 g2, q1, q2, q3⟩
theorem it_zipT {l m : List D} {p q : Addr} (hS : SOk K ρ S H) (r1 : Rp K ρ H (.tup l) (.ref p)) (r2 : Rp K ρ H (.tup m) (.ref q)) : ItOk K (ItzT K p q) (zipD l m) (fun _ => True) ρ H := by
  refine ⟨fun i ρ' S' H' hi hS' st g => ?_, fun ρ' S' H' hS' st g => ?_, fun i ρ' S' H' x H2 hi hS' st g y => ?_⟩
  all_goals
    obtain ⟨vs, h2, h1⟩ := seq_at (v := .ref p) (l := l) hS r1 rfl hS' st trivial
    obtain ⟨ws, h4, h3⟩ := seq_at (v := .ref q) (l := m) hS r2 rfl hS' st trivial
    rcases h1 with ⟨_, h5⟩ | ⟨h1, _⟩
    case inl => exact absurd rfl (h5 l)
    rcases h3 with ⟨_, h5⟩ | ⟨h3, _⟩
    case inl => exact absurd rfl (h5 m)
  · rw [zipD_length] at hi
    have i1 : i < vs.length := by rw [← h2.length]; omega
    have i2 : i < ws.length := by rw [← h4.length]; omega
    exact ⟨vs, ws, vs[i], ws[i], h1, h3, by simp [i1], by simp [i2]⟩
  · rw [zipD_length]
    exact ⟨vs, ws, h1, h3, by rw [← h2.length, ← h4.length]; omega⟩
  · obtain ⟨T, x1, y1, rfl, hT, e3, y2, y3⟩ := y
    obtain ⟨d1, g1, s1⟩ := YAt_get h2 (y2 vs h1)
    obtain ⟨d2, g2, s2⟩ := YAt_get h4 (y3 ws h3)
    obtain ⟨q1, q2, q3⟩ := new_pair hS' s1 s2 hT e3
    exact ⟨_, zipD_get g1 g2, q1, q2, q3⟩
end
theorem lst_not_tup {S : Sto} {a : D} {l : List D} (h : lstD S a = some l) : ∀ k, a ≠ .tup k := fun k z => by subst z; cases h
theorem i_zip (hg : Gl X "zip") (hm : X.mg "zip" = none) (ha : DA X W [e, e2] n) (hs : starEach [e, e2] X.env = (false, eval e X.env) :: starEach [e2] X.env := by rfl) (hpl : (backTo pos (starEach [e2] X.env)).any (·.1) = false := by rfl) :
    DI X W (.Tuple elts kk tpos) (.Call (.Name "zip" p) [e, e2] [] pos) (iZipD n) :=
  ⟨PI.imp (pi_zipA hg hm ha.p hs hpl) fun σ H Q ⟨ρ, S, env, hS, hE, h⟩ => tI.bindK hS hE h fun v H1 ρ1 S1 ds hS1 hE1 st1 r1 h1 => by
    match ds with
    | [] => exact h1.elim
    | [a] => cases a <;> exact False.elim h1
    | a :: b :: _ :: _ => cases a <;> first | exact False.elim h1 | (cases b <;> exact False.elim h1)
    | [a, b] =>
      obtain ⟨w1, w2, rfl, s1, s2⟩ := r1.dest2
      have lists : ∀ l m, lstD S1 a = some l → lstD S1 b = some m → (∀ ρ' H' J, SOk X.K ρ' S1 H' → Stp ρ1 ρ' H1 H' → ItOk X.K J (zipD l m) (fun S => gdSeq a l S ∧ gdSeq b m S) ρ' H' → Q J H') → iZipA X.K (fun σ H Q => Q [w1, w2] H) σ H1 Q := by
        intro l m ea eb hq
        obtain ⟨p, vs, e1, h2, h3⟩ := der_lst hS1 s1 ea
        obtain ⟨q, ws, e2, h4, h5⟩ := der_lst hS1 s2 eb
        subst e1 e2
        exact ⟨p, q, vs, ws, rfl, .inl ⟨h2, h4, hq ρ1 H1 _ hS1 .refl (it_zipL hS1 s1 s2 ea eb (lst_not_tup ea) (lst_not_tup eb))⟩⟩
      by_cases ht : ∃ l m, a = .tup l ∧ b = .tup m
      · obtain ⟨l, m, rfl, rfl⟩ := ht
        obtain ⟨p, vs, rfl, h2, h3⟩ := id s1
        obtain ⟨q, ws, rfl, h4, h5⟩ := id s2
        exact ⟨p, q, vs, ws, rfl, .inr ⟨h2.sq, h4.sq, h1 ρ1 H1 _ hS1 .refl (it_zipT hS1 s1 s2)⟩⟩
      · have h1' : match (match lstD S1 a, lstD S1 b with
          | some l, some m => (R.ok (zipD l m, fun S => gdSeq a l S ∧ gdSeq b m S) S1 : R (List D × (Sto → Prop)))
          | _, _ => .bad) with
          | .ok (l, gd) S' => ∀ ρ' H' J, SOk X.K ρ' S' H' → Stp ρ1 ρ' H1 H' → ItOk X.K J l gd ρ' H' → Q J H'
          | .exc C fs S' => ∀ ρ' H' d vs, SOk X.K ρ' S' H' → Stp ρ1 ρ' H1 H' → ρ'.no d → H' d = some (.xd vs) → KVs X.K ρ' H' fs vs → W (.ref C) (some d) σ H'
          | .bad => False := by
          cases a <;> first
            | (cases b <;> first
                | exact absurd ⟨_, _, rfl, rfl⟩ ht
                | exact h1)
            | exact h1
        cases ea : lstD S1 a with
        | none => rw [ea] at h1'; exact h1'.elim
        | some l =>
          cases eb : lstD S1 b with
          | none => rw [ea, eb] at h1'; exact h1'.elim
          | some m =>
            rw [ea, eb] at h1'
            exact lists l m ea eb h1'⟩
/-! enumerate(list) -/
def enumD (l : List D) : List D := zipD (rangeD 0 l.length) l
def iEnD (n : AM) : IM := fun env S => (n env S).bind fun ds S1 => match ds with
  | [a] => match lstD S1 a with
    | some l => .ok (enumD l, gdSeq a l) S1
    | _ => .bad
  | _ => .bad
section
variable {K : PySem.W.Frag} {ρ : Rho} {S : Sto} {H : Hp}
theorem enumD_length {l : List D} : (enumD l).length = l.length := by unfold enumD; rw [zipD_length, rangeD_length]; omega
theorem it_enumL {a : D} {l : List D} {p : Addr} (hS : SOk K ρ S H) (r1 : Rp K ρ H a (.ref p)) (e1 : lstD S a = some l) : ItOk K (Ite K p) (enumD l) (gdSeq a l) ρ H := by
  have n1 := lst_not_tup e1
  refine ⟨fun i ρ' S' H' hi hS' st g => ?_, fun ρ' S' H' hS' st g => ?_, fun i ρ' S' H' x H2 hi hS' st g y => ?_⟩
  all_goals
    obtain ⟨vs, h2, h1⟩ := seq_at (v := .ref p) hS r1 (seqD_of_lst e1) hS' st g
    rcases h1 with ⟨h1, _⟩ | ⟨_, h5⟩
    case inr => exact absurd h5 (n1 l)
  · rw [enumD_length] at hi
    have i1 : i < vs.length := by rw [← h2.length]; omega
    exact ⟨vs, vs[i], h1, by simp [i1]⟩
  · rw [enumD_length]
    exact ⟨vs, h1, by rw [← h2.length]; omega⟩
  · obtain ⟨T, x1, rfl, hT, e3, y2⟩ := y
    obtain ⟨d1, g1, s1⟩ := YAt_get h2 (y2 vs h1)
    rw [enumD_length] at hi
    have gi := rangeD_get (lo := 0) hi
    have z0 : (0 : Int) + (i : Int) = (i : Int) := Int.zero_add _
    rw [z0] at gi
    obtain ⟨q1, q2, q3⟩ := new_pair (d := .int (i : Int)) hS' rfl s1 hT e3
    exact ⟨_, zipD_get gi g1, q1, q2, q3⟩
end
theorem i_enum (hg : Gl X "enumerate") (hm : X.mg "enumerate" = none) (ha : DA X W [e] n) (hs : starEach [e] X.env = [(false, eval e X.env)] := by rfl) : DI X W (.Tuple elts kk tpos) (.Call (.Name "enumerate" p) [e] [] pos) (iEnD n) :=
  ⟨PI.imp (pi_enum hg hm ha.p hs) fun σ H Q ⟨ρ, S, env, hS, hE, h⟩ => tI.bindK hS hE h fun v H1 ρ1 S1 ds hS1 hE1 st1 r1 h1 => by
    match ds with
    | [] => exact False.elim h1
    | a :: b :: _ => exact False.elim h1
    | [a] =>
      obtain ⟨w1, rfl, s1⟩ := r1.dest1
      simp only at h1
      cases ea : lstD S1 a with
      | none => rw [ea] at h1; exact False.elim h1
      | some l =>
        rw [ea] at h1
        obtain ⟨p, vs, e1, h2, h3⟩ := der_lst hS1 s1 ea
        subst e1
        exact ⟨p, vs, rfl, h2, h1 ρ1 H1 _ hS1 .refl (it_enumL hS1 s1 ea)⟩⟩
/-! ### for -/
open Classical in
noncomputable def forD (g : GM) (body : SM) (gd : Sto → Prop) : List D → En → Sto → RS
  | [], env, S => if gd S then .nx env S else .bad
  | d :: ds, env, S => if gd S then match g d env S with
    | .ok env1 S1 => match body env1 S1 with
      | .nx env2 S2 => forD g body gd ds env2 S2
      | .ct env2 S2 => forD g body gd ds env2 S2
      | .bk env2 S2 => .nx env2 S2
      | r => r
    | _ => .bad
    else .bad
noncomputable def sFor (i : IM) (g : GM) (body : SM) : SM := fun env S => RS.of (i env S) env fun p S1 => forD g body p.2 p.1 env S1
theorem s_for {body : List Stmt} {i : IM} {is : List Nat} {g : GM} {mb : SM} (hp : PassesOwn (model X.prog X.w) X.A X.env X.xe) (hc : X.calm = true) (hi : DI X W tg e i) (hg : DG X is tg g) (hb : DB X W body mb)
    (hs : ∀ x, foldedSetIterable e X.env x = pure x := by intro _; rfl) : DS X W (.For tg e body [] pos) (sFor i g mb) :=
  ⟨PS.imp (ps_for hp hc hi.p hg.p hb.p hs) fun T σ H ⟨ρ, S, env, hS, hE, h⟩ => by
    refine ⟨ρ, S, env, hS, hE, ?_⟩
    unfold sFor at h
    cases hi' : i env S with
    | exc C fs S1 =>
      rw [hi'] at h
      exact fun ρ' H' d vs q1 q2 q3 q4 q5 => h ρ' H' σ d vs q1 q2 (hE.step hS q2) q3 q4 q5
    | bad => rw [hi'] at h; exact h.elim
    | ok p S1 =>
      obtain ⟨l, gd⟩ := p
      rw [hi'] at h
      simp only [RS.of_ok] at h
      intro ρ1 H1 J hS1 st1 it
      -- the turn's word: what is left of the loop gives the end that is wanted
      refine ⟨fun k m σ' H' => m = l.length - k ∧ k ≤ l.length ∧ ∃ ρ' S' env', SOk X.K ρ' S' H' ∧ EOk X.K ρ' H' env' σ' ∧ Stp ρ1 ρ' H1 H' ∧ SPost X.K W T ρ' H' (forD g mb gd (l.drop k) env' S'), ⟨l.length, by simp, Nat.zero_le _, ρ1, S1, env, hS1, hE.step hS st1, .refl, by simpa using h.step st1⟩, ?_⟩
      rintro k m σ' H' ⟨rfl, hk, ρ', S', env', hS', hE', st', h'⟩
      by_cases hlt : k < l.length
      · right
        rw [List.drop_eq_getElem_cons hlt] at h'
        unfold forD at h'
        split at h'
        · rename_i hgd
          refine ⟨it.goes k ρ' S' H' hlt hS' st' hgd, fun σ2 H2 => ∃ ρ2 S2 env2, SOk X.K ρ2 S2 H2 ∧ EOk X.K ρ2 H2 env2 σ2 ∧ Stp ρ1 ρ2 H1 H2 ∧ SPost X.K W T ρ2 H2 (forD g mb gd (l.drop (k + 1)) env2 S2),
            fun σ2 H2 q => ⟨l.length - (k + 1), by omega, rfl, hlt, q⟩, fun x H2 y => ?_⟩
          obtain ⟨d, hd, hS2, st2, r2⟩ := it.yields k ρ' S' H' x H2 hlt hS' st' hgd y
          have hd' : d = l[k] := by simp [hlt] at hd; exact hd.symm
          subst hd'
          cases hg' : g l[k] env' S' with
          | ok env3 S3 =>
            rw [hg'] at h'
            refine ⟨ρ', S', env', l[k], hS2, hE'.step hS' st2, r2, env3, S3, hg', fun ρ4 H4 σ4 hS4 st4 hE4 _ => ?_⟩
            refine ⟨ρ4, S3, env3, hS4, hE4, ?_⟩
            have stA : Stp ρ' ρ4 H' H4 := st2.trans st4
            simp only at h'
            cases hb' : mb env3 S3 with
            | nx env5 S5 => rw [hb'] at h'; exact fun ρ6 H6 σ6 h1 h2 h3 => ⟨ρ6, S5, env5, h1, h3, st'.trans (stA.trans h2), h'.step (stA.trans h2)⟩
            | ct env5 S5 => rw [hb'] at h'; exact fun ρ6 H6 σ6 h1 h2 h3 => ⟨ρ6, S5, env5, h1, h3, st'.trans (stA.trans h2), h'.step (stA.trans h2)⟩
            | bk env5 S5 => rw [hb'] at h'; exact fun ρ6 H6 σ6 h1 h2 h3 => h' ρ6 H6 σ6 h1 (stA.trans h2) h3
            | rt d5 S5 => rw [hb'] at h'; exact fun ρ6 H6 v h1 h2 h3 => h' ρ6 H6 v h1 (stA.trans h2) h3
            | exc C fs env5 S5 => rw [hb'] at h'; exact fun ρ6 H6 σ6 d vs h1 h2 h3 h4 h5 h6 => h' ρ6 H6 σ6 d vs h1 (stA.trans h2) h3 h4 h5 h6
            | bad => rw [hb'] at h'; exact h'.elim
          | exc C fs S3 => rw [hg'] at h'; exact h'.elim
          | bad => rw [hg'] at h'; exact h'.elim
        · exact h'.elim
      · left
        have ek : k = l.length := by omega
        subst ek
        rw [List.drop_length] at h'
        unfold forD at h'
        split at h'
        · rename_i hgd
          exact ⟨it.stops ρ' S' H' hS' st' hgd, h' ρ' H' σ' hS' .refl hE'⟩
        · exact h'.elim⟩
/-! ### while -/
/-- n turns at most -/
def whileN (c : BM) (body : SM) : Nat → En → Sto → RS
  | 0, _, _ => .bad
  | n + 1, env, S => RS.of (c env S) env fun b S1 => if b = true then match body env S1 with
    | .nx env2 S2 => whileN c body n env2 S2
    | .ct env2 S2 => whileN c body n env2 S2
    | .bk env2 S2 => .nx env2 S2
    | r => r
    else .nx env S1
open Classical in
noncomputable def sWhile (c : BM) (body : SM) : SM := fun env S => if h : ∃ n, whileN c body n env S ≠ .bad then whileN c body (choose h) env S else .bad
theorem whileN_more {c : BM} {body : SM} : ∀ {n : Nat} {env : En} {S : Sto}, whileN c body n env S ≠ .bad → whileN c body (n + 1) env S = whileN c body n env S
  | 0, env, S, h => absurd rfl h
  | n + 1, env, S, h => by
    unfold whileN at h
    rw [whileN, whileN]
    cases hc : c env S with
    | ok b S1 =>
      rw [hc] at h
      simp only [RS.of_ok] at h ⊢
      cases b with
      | false => rfl
      | true =>
        simp only [if_true] at h ⊢
        cases hb : body env S1 with
        | nx env2 S2 => rw [hb] at h; exact whileN_more h
        | ct env2 S2 => rw [hb] at h; exact whileN_more h
        | bk env2 S2 => rfl
        | rt d S2 => rfl
        | exc C fs env2 S2 => rfl
        | bad => rfl
    | exc C fs S1 => rfl
    | bad => rfl
theorem whileN_le {c : BM} {body : SM} {n m : Nat} {env : En} {S : Sto} (h : whileN c body n env S ≠ .bad) (hm : n ≤ m) : whileN c body m env S = whileN c body n env S := by
  induction m with
  | zero => have : n = 0 := by omega
            subst this; rfl
  | succ m ih =>
    by_cases e : n = m + 1
    · subst e; rfl
    · have e1 := ih (by omega)
      rw [whileN_more (by rw [e1]; exact h), e1]
theorem sWhile_eq {c : BM} {body : SM} {n : Nat} {env : En} {S : Sto} (h : whileN c body n env S ≠ .bad) : sWhile c body env S = whileN c body n env S := by
  classical
  have hx : ∃ n, whileN c body n env S ≠ .bad := ⟨n, h⟩
  unfold sWhile
  rw [dif_pos hx]
  have h2 := Classical.choose_spec hx
  rcases Nat.le_total n (Classical.choose hx) with q | q
  · exact whileN_le h q
  · exact (whileN_le h2 q).symm
/-- one turn -/
theorem sWhile_unfold {c : BM} {body : SM} (env : En) (S : Sto) : sWhile c body env S = RS.of (c env S) env fun b S1 => if b = true then match body env S1 with
    | .nx env2 S2 => sWhile c body env2 S2
    | .ct env2 S2 => sWhile c body env2 S2
    | .bk env2 S2 => .nx env2 S2
    | r => r
    else .nx env S1 := by
  classical
  by_cases hx : ∃ n, whileN c body n env S ≠ .bad
  · obtain ⟨n, hn⟩ := hx
    rw [sWhile_eq hn]
    cases n with
    | zero => exact absurd rfl hn
    | succ n =>
      unfold whileN at hn ⊢
      cases hc : c env S with
      | ok b S1 =>
        rw [hc] at hn
        simp only [RS.of_ok] at hn ⊢
        cases b with
        | false => rfl
        | true =>
          simp only [if_true] at hn ⊢
          cases hb : body env S1 with
          | nx env2 S2 => rw [hb] at hn; exact (sWhile_eq hn).symm
          | ct env2 S2 => rw [hb] at hn; exact (sWhile_eq hn).symm
          | bk env2 S2 => rfl
          | rt d S2 => rfl
          | exc C fs env2 S2 => rfl
          | bad => rfl
      | exc C fs S1 => rfl
      | bad => rfl
  · have h0 : sWhile c body env S = .bad := by unfold sWhile; rw [dif_neg hx]
    rw [h0]
    have all : ∀ n, whileN c body n env S = .bad := fun n => Classical.byContradiction fun z => hx ⟨n, z⟩
    have inner : ∀ env2 S2, (∀ n, whileN c body n env2 S2 = .bad) → sWhile c body env2 S2 = .bad := fun env2 S2 h => by
      unfold sWhile
      rw [dif_neg fun ⟨n, z⟩ => z (h n)]
    have a1 := all 1
    rw [whileN] at a1
    cases hc : c env S with
    | ok b S1 =>
      rw [hc] at a1
      simp only [RS.of_ok] at a1 ⊢
      cases b with
      | false => exact absurd a1 (by intro z; cases z)
      | true =>
        simp only [if_true] at a1 ⊢
        cases hb : body env S1 with
        | nx env2 S2 =>
          refine (inner env2 S2 fun n => ?_).symm
          have := all (n + 1)
          rw [whileN, hc] at this
          simpa [hb] using this
        | ct env2 S2 =>
          refine (inner env2 S2 fun n => ?_).symm
          have := all (n + 1)
          rw [whileN, hc] at this
          simpa [hb] using this
        | bk env2 S2 => rw [hb] at a1; cases a1
        | rt d S2 => rw [hb] at a1; cases a1
        | exc C fs env2 S2 => rw [hb] at a1; cases a1
        | bad => rfl
    | exc C fs S1 => rw [hc] at a1; cases a1
    | bad => rfl
theorem s_while {c : Expr} {body : List Stmt} {mc : BM} {mb : SM} (hp : PassesOwn (model X.prog X.w) X.A X.env X.xe) (hc : DT X W c mc) (hb : DB X W body mb) : DS X W (.While c body [] pos) (sWhile mc mb) :=
  ⟨PS.imp (ps_while hp hc.p hb.p) fun T σ H ⟨ρ, S, env, hS, hE, h⟩ => by
    classical
    have hx : ∃ n, whileN mc mb n env S ≠ .bad := Classical.byContradiction fun hx => by
      unfold sWhile at h
      rw [dif_neg hx] at h
      exact h
    obtain ⟨n, hn⟩ := hx
    rw [sWhile_eq hn] at h
    refine ⟨fun m σ' H' => ∃ ρ' S' env', SOk X.K ρ' S' H' ∧ EOk X.K ρ' H' env' σ' ∧ SPost X.K W T ρ' H' (whileN mc mb m env' S'), ⟨n, ρ, S, env, hS, hE, h⟩, ?_⟩
    rintro m σ' H' ⟨ρ', S', env', hS', hE', h'⟩
    cases m with
    | zero => exact h'.elim
    | succ m =>
      unfold whileN at h'
      refine SPost.bindK hS' hE' h' fun v H1 ρ1 S1 b hS1 hE1 st1 r1 h1 => ?_
      cases r1
      cases v with
      | false => exact h1 ρ1 H1 σ' hS1 .refl hE1
      | true =>
        simp only [if_true] at h1 ⊢
        refine ⟨fun σ2 H2 => ∃ ρ2 S2 env2, SOk X.K ρ2 S2 H2 ∧ EOk X.K ρ2 H2 env2 σ2 ∧ SPost X.K W T ρ2 H2 (whileN mc mb m env2 S2), fun σ2 H2 q => ⟨m, Nat.lt_succ_self m, q⟩, ρ1, S1, env', hS1, hE1, ?_⟩
        cases hb' : mb env' S1 with
        | nx env5 S5 => rw [hb'] at h1; exact fun ρ6 H6 σ6 q1 q2 q3 => ⟨ρ6, S5, env5, q1, q3, h1.step q2⟩
        | ct env5 S5 => rw [hb'] at h1; exact fun ρ6 H6 σ6 q1 q2 q3 => ⟨ρ6, S5, env5, q1, q3, h1.step q2⟩
        | bk env5 S5 => rw [hb'] at h1; exact h1
        | rt d5 S5 => rw [hb'] at h1; exact h1
        | exc C fs env5 S5 => rw [hb'] at h1; exact h1
        | bad => rw [hb'] at h1; exact h1.elim⟩
end
end Mi

namespace Mi
open PySem PySem.Spec PyProof.Rows L2
/-! ### a list that is just being built: nobody else knows it -/
def Rho.hide (ρ : Rho) (p : Addr) : Rho := ⟨ρ.m, fun a => ρ.pv a ∨ a = p⟩
section
variable {K : PySem.W.Frag} {ρ ρ' : Rho} {S S' : Sto} {H H' : Hp} {p : Addr} {env : En} {σ : L2.St}
theorem Rho.no_hide {q : Addr} (h : (ρ.hide p).no q) : ρ.no q ∧ q ≠ p := ⟨⟨h.1, fun z => h.2 (.inl z)⟩, fun z => h.2 (.inr z)⟩
mutual
/-- another record of what may change -/
theorem Rp.re (hm : ∀ n a, ρ.m n = some a → ρ'.m n = some a) (hn : ∀ (q : Addr) (u : HO), H q = some u → ρ.no q → ρ'.no q) : ∀ (d : D) (v : V), Rp K ρ H d v → Rp K ρ' H d v
  | .non, v, h => h
  | .bl b, v, h => h
  | .int i, v, h => h
  | .str x, v, h => h
  | .tup l, v, h => by
    obtain ⟨p, vs, e, h1, h2⟩ := h
    exact ⟨p, vs, e, h1, Rps.re hm hn l vs h2⟩
  | .lst l, v, h => by
    obtain ⟨p, vs, e, h1, h2, h3⟩ := h
    exact ⟨p, vs, e, h1, hn p _ h1 h2, Rps.re hm hn l vs h3⟩
  | .wls l, v, h => by
    obtain ⟨p, vs, e, h1, h2⟩ := h
    exact ⟨p, vs, e, h1, Rps.re hm hn l vs h2⟩
  | .loc n, v, h => by
    obtain ⟨a, e, h1⟩ := h
    exact ⟨a, e, hm n a h1⟩
  | .gl a, v, h => h
  | .ty n, v, h => h
  | .dic ks l, v, h => by
    obtain ⟨p, vs, e, h1, hl, h2, h3⟩ := h
    exact ⟨p, vs, e, h1, hl, hn p _ h1 h2, Rps.re hm hn l vs h3⟩
  | .ftp l, v, h => by
    obtain ⟨p, vs, e, h1, h2⟩ := h
    exact ⟨p, vs, e, h1, Rps.re hm hn l vs h2⟩
theorem Rps.re (hm : ∀ n a, ρ.m n = some a → ρ'.m n = some a) (hn : ∀ (q : Addr) (u : HO), H q = some u → ρ.no q → ρ'.no q) : ∀ (ds : List D) (vs : List V), Rps K ρ H ds vs → Rps K ρ' H ds vs
  | [], vs, h => h
  | d :: ds, vs, h => by
    obtain ⟨v, r, e, h1, h2⟩ := h
    exact ⟨v, r, e, Rp.re hm hn d v h1, Rps.re hm hn ds r h2⟩
end
theorem KVs.re {κ : Type} (hm : ∀ n a, ρ.m n = some a → ρ'.m n = some a) (hn : ∀ (q : Addr) (u : HO), H q = some u → ρ.no q → ρ'.no q) : ∀ (l : List (κ × D)) (vs : List (κ × V)), KVs K ρ H l vs → KVs K ρ' H l vs
  | [], _, h => h
  | d :: ds, _, h => by obtain ⟨v, r, e, h1, h2⟩ := h; exact ⟨v, r, e, Rp.re hm hn _ _ h1, KVs.re hm hn ds r h2⟩
theorem OOk.re (hm : ∀ n a, ρ.m n = some a → ρ'.m n = some a) (hn : ∀ (q : Addr) (u : HO), H q = some u → ρ.no q → ρ'.no q) {a : Addr} {o : O} (h : OOk K ρ H a o) : OOk K ρ' H a o := by
  cases o with
  | lst l => obtain ⟨vs, h1, h2⟩ := h; exact ⟨vs, h1, Rps.re hm hn l vs h2⟩
  | dct l => obtain ⟨vs, h1, h2⟩ := h; exact ⟨vs, h1, KVs.re hm hn l vs h2⟩
  | dcT l => obtain ⟨vs, h1, h2⟩ := h; exact ⟨vs, h1, KVs.re hm hn l vs h2⟩
  | ins C l => obtain ⟨dx, vs, h1, h2⟩ := h; exact ⟨dx, vs, h1, KVs.re hm hn l vs h2⟩
theorem EOk.re (hm : ∀ n a, ρ.m n = some a → ρ'.m n = some a) (hn : ∀ (q : Addr) (u : HO), H q = some u → ρ.no q → ρ'.no q) (h : EOk K ρ H env σ) : EOk K ρ' H env σ :=
  ⟨h.len, fun i d e => by obtain ⟨v, h1, h2⟩ := h.val i d e; exact ⟨v, h1, Rp.re hm hn d v h2⟩⟩
theorem unh (q : Addr) (u : HO) (_ : H q = some u) (h : (ρ.hide p).no q) : ρ.no q := (Rho.no_hide h).1
theorem SOk.unhide (h : SOk K (ρ.hide p) S H) : SOk K ρ S H :=
  ⟨h.inj, h.dom, fun n o e => by
    obtain ⟨a, ha, ok⟩ := h.obj n o e
    exact ⟨a, ha, OOk.re (ρ := ρ.hide p) (ρ' := ρ) (fun _ _ z => z) unh ok⟩, fun a z => h.prv a (.inl z)⟩
mutual
/-- the list at p, that nobody knows, is written -/
theorem Rp.pupd {o : HO} (hp : ∀ u, H p = some u → Mk u) (pv : ρ.pv p) : ∀ (d : D) (v : V), Rp K ρ H d v → Rp K ρ (upd H p o) d v
  | .non, v, h => h
  | .bl b, v, h => h
  | .int i, v, h => h
  | .str x, v, h => h
  | .tup l, v, h => by
    obtain ⟨q, vs, e, h1, h2⟩ := h
    refine ⟨q, vs, e, ?_, Rps.pupd hp pv l vs h2⟩
    rcases h1 with h1 | ⟨o', h1, ht⟩ | h1
    · exact .inl (by rw [upd_ne (fun z => by subst z; exact hp _ h1)]; exact h1)
    · exact .inr (.inl ⟨o', by rw [upd_ne (fun z => by subst z; exact hp _ h1)]; exact h1, ht⟩)
    · exact .inr (.inr h1)
  | .lst l, v, h => by
    obtain ⟨q, vs, e, h1, h2, h3⟩ := h
    exact ⟨q, vs, e, by rw [upd_ne (fun z => h2.2 (by rw [z]; exact pv))]; exact h1, h2, Rps.pupd hp pv l vs h3⟩
  | .wls l, v, h => by
    obtain ⟨q, vs, e, h1, h2⟩ := h
    refine ⟨q, vs, e, ?_, Rps.pupd hp pv l vs h2⟩
    rcases h1 with ⟨o', h1⟩ | h1
    · exact .inl ⟨o', by rw [upd_ne (fun z => by subst z; exact hp _ h1)]; exact h1⟩
    · exact .inr h1
  | .loc n, v, h => h
  | .gl a, v, h => h
  | .ty n, v, h => h
  | .dic ks l, v, h => by
    obtain ⟨q, vs, e, h1, hl, h2, h3⟩ := h
    exact ⟨q, vs, e, by rw [upd_ne (fun z => h2.2 (by rw [z]; exact pv))]; exact h1, hl, h2, Rps.pupd hp pv l vs h3⟩
  | .ftp l, v, h => by
    obtain ⟨q, vs, e, ⟨o', h1, hd⟩, h2⟩ := h
    exact ⟨q, vs, e, ⟨o', by rw [upd_ne (fun z => by subst z; exact hp _ h1)]; exact h1, hd⟩, Rps.pupd hp pv l vs h2⟩
theorem Rps.pupd {o : HO} (hp : ∀ u, H p = some u → Mk u) (pv : ρ.pv p) : ∀ (ds : List D) (vs : List V), Rps K ρ H ds vs → Rps K ρ (upd H p o) ds vs
  | [], vs, h => h
  | d :: ds, vs, h => by
    obtain ⟨v, r, e, h1, h2⟩ := h
    exact ⟨v, r, e, Rp.pupd hp pv d v h1, Rps.pupd hp pv ds r h2⟩
end
theorem KVs.pupd {κ : Type} {o : HO} (hp : ∀ u, H p = some u → Mk u) (pv : ρ.pv p) : ∀ (l : List (κ × D)) (vs : List (κ × V)), KVs K ρ H l vs → KVs K ρ (upd H p o) l vs
  | [], _, h => h
  | d :: ds, _, h => by obtain ⟨v, r, e, h1, h2⟩ := h; exact ⟨v, r, e, Rp.pupd hp pv _ _ h1, KVs.pupd hp pv ds r h2⟩
theorem EOk.pupd {o : HO} (hp : ∀ u, H p = some u → Mk u) (pv : ρ.pv p) (h : EOk K ρ H env σ) : EOk K ρ (upd H p o) env σ :=
  ⟨h.len, fun i d e => by obtain ⟨v, h1, h2⟩ := h.val i d e; exact ⟨v, h1, Rp.pupd hp pv d v h2⟩⟩
theorem SOk.pupd {ys : List V} (hS : SOk K ρ S H) (pv : ρ.pv p) : SOk K ρ S (upd H p (.lst ys)) := by
  obtain ⟨⟨u, h1, h2⟩, h3⟩ := hS.prv p pv
  have hp : ∀ u, H p = some u → Mk u := fun u' h => by rw [h1] at h; cases h; exact h2
  refine ⟨hS.inj, hS.dom, fun n o e => ?_, fun a z => ?_⟩
  · obtain ⟨a, ha, ok⟩ := hS.obj n o e
    have hne : a ≠ p := fun z => h3 n (by rw [← z]; exact ha)
    refine ⟨a, ha, ?_⟩
    cases o with
    | lst l => obtain ⟨vs, h1, h2⟩ := ok; exact ⟨vs, by rw [upd_ne hne]; exact h1, Rps.pupd hp pv l vs h2⟩
    | dct l => obtain ⟨vs, h1, h2⟩ := ok; exact ⟨vs, by rw [upd_ne hne]; exact h1, KVs.pupd hp pv l vs h2⟩
    | dcT l => obtain ⟨vs, h1, h2⟩ := ok; exact ⟨vs, by rw [upd_ne hne]; exact h1, KVs.pupd hp pv l vs h2⟩
    | ins C l => obtain ⟨dx, vs, h1, h2⟩ := ok; exact ⟨dx, vs, by rw [upd_ne hne]; exact h1, KVs.pupd hp pv l vs h2⟩
  · by_cases hap : a = p
    · subst hap; exact ⟨⟨_, upd_same, trivial⟩, h3⟩
    · obtain ⟨⟨u', h4, h5⟩, h6⟩ := hS.prv a z
      exact ⟨⟨u', by rw [upd_ne hap]; exact h4, h5⟩, h6⟩
/-- a new list, hidden -/
theorem hide_no (hp : H p = none) (q : Addr) (u : HO) (h : H q = some u) (hn : ρ.no q) : (ρ.hide p).no q :=
  ⟨hn.1, fun z => z.elim hn.2 fun z => by subst z; rw [hp] at h; cases h⟩
theorem hide_mk (hp : H p = none) (u : HO) (h : H p = some u) : Mk u := by rw [hp] at h; cases h
theorem SOk.hideN (hS : SOk K ρ S H) (hp : H p = none) : SOk K (ρ.hide p) S (upd H p (.lst [])) := by
  have a := hS.alloc (o := .lst []) hp
  have b : ∀ n, ρ.m n ≠ some p := (hS.noN hp).1
  refine ⟨hS.inj, hS.dom, fun n o e => ?_, fun a z => ?_⟩
  · obtain ⟨a, ha, ok⟩ := hS.obj n o e
    have hne : a ≠ p := fun z => b n (by rw [← z]; exact ha)
    have ok1 : OOk K (ρ.hide p) H a o := OOk.re (ρ := ρ) (ρ' := ρ.hide p) (fun _ _ z => z) (hide_no hp) ok
    have pv : (ρ.hide p).pv p := .inr rfl
    refine ⟨a, ha, ?_⟩
    cases o with
    | lst l => obtain ⟨vs, h1, h2⟩ := ok1; exact ⟨vs, by rw [upd_ne hne]; exact h1, Rps.pupd (hide_mk hp) pv l vs h2⟩
    | dct l => obtain ⟨vs, h1, h2⟩ := ok1; exact ⟨vs, by rw [upd_ne hne]; exact h1, KVs.pupd (hide_mk hp) pv l vs h2⟩
    | dcT l => obtain ⟨vs, h1, h2⟩ := ok1; exact ⟨vs, by rw [upd_ne hne]; exact h1, KVs.pupd (hide_mk hp) pv l vs h2⟩
    | ins C l => obtain ⟨dx, vs, h1, h2⟩ := ok1; exact ⟨dx, vs, by rw [upd_ne hne]; exact h1, KVs.pupd (hide_mk hp) pv l vs h2⟩
  · rcases z with z | z
    · obtain ⟨⟨u', h4, h5⟩, h6⟩ := hS.prv a z
      exact ⟨⟨u', by rw [upd_ne (ne_of_none h4 hp)]; exact h4, h5⟩, h6⟩
    · subst z; exact ⟨⟨_, upd_same, trivial⟩, b⟩
theorem EOk.hideN (hE : EOk K ρ H env σ) (hp : H p = none) : EOk K (ρ.hide p) (upd H p (.lst [])) env σ :=
  (EOk.re (ρ := ρ) (ρ' := ρ.hide p) (fun _ _ z => z) (hide_no hp) hE).pupd (hide_mk hp) (.inr rfl)
/-- steps with the list hidden -/
theorem Stp.unhide {ρ4 : Rho} (st : Stp (ρ.hide p) ρ4 H H') (hv : ¬ ρ.pv p) : ∃ ρ5 : Rho, ρ4 = ρ5.hide p ∧ ¬ ρ5.pv p ∧ Stp ρ ρ5 H H' := by
  refine ⟨⟨ρ4.m, fun a => ρ4.pv a ∧ a ≠ p⟩, ?_, fun z => z.2 rfl, ⟨st.up, st.new, fun a z => ?_, fun a z => ⟨st.pvu a (.inl z), fun e => by subst e; exact hv z⟩, st.keep, st.live⟩⟩
  · have hp := st.pvu p (.inr rfl)
    obtain ⟨m4, pv4⟩ := ρ4
    unfold Rho.hide
    congr 1
    funext a
    apply propext
    refine ⟨fun z => ?_, fun z => z.elim (·.1) fun e => by subst e; exact hp⟩
    by_cases e : a = p
    · exact .inr e
    · exact .inl ⟨z, e⟩
  · rcases st.pv a z.1 with (q | q) | q
    · exact .inl q
    · exact absurd q z.2
    · exact .inr q
/-- .. and with it from ahead of it -/
theorem Stp.hide {ρ0 : Rho} {H0 : Hp} (st : Stp ρ0 ρ H0 H) (hp : H0 p = none) : Stp ρ0 (ρ.hide p) H0 H :=
  ⟨st.up, st.new, fun a z => z.elim (st.pv a) fun e => by subst e; exact .inr hp, fun a z => .inl (st.pvu a z), st.keep, st.live⟩
theorem Stp.putP {ρ0 : Rho} {H0 : Hp} {ys : List V} (st : Stp ρ0 ρ H0 H) (hp : H0 p = none) : Stp ρ0 ρ H0 (upd H p (.lst ys)) where
  up := st.up
  new := st.new
  pv := st.pv
  pvu := st.pvu
  keep a o h hn := by rw [upd_ne (ne_of_none h hp)]; exact st.keep a o h hn
  live a h := st.live a (upd_live h)
/-- the list built is told to the world, as one that stays -/
theorem hidden_lst {l : List D} {vs : List V} (hS : SOk K (ρ.hide p) S H) (e : H p = some (.lst vs)) (r : Rps K (ρ.hide p) H l vs) (hv : ¬ ρ.pv p) : SOk K ρ S H ∧ Rp K ρ H (.lst l) (.ref p) :=
  ⟨hS.unhide, p, vs, rfl, e, ⟨(hS.prv p (.inr rfl)).2, hv⟩, Rps.re (ρ := ρ.hide p) (ρ' := ρ) (fun _ _ z => z) unh l vs r⟩
/-- .. as one that may change -/
theorem hidden_loc {l : List D} {vs : List V} (hS : SOk K (ρ.hide p) S H) (e : H p = some (.lst vs)) (r : Rps K (ρ.hide p) H l vs) (hv : ¬ ρ.pv p) : SOk K (ρ.put S.length p) (S ++ [.lst l]) H ∧ Rp K (ρ.put S.length p) H (.loc S.length) (.ref p) := by
  have hm : ∀ n a, (ρ.hide p).m n = some a → (ρ.put S.length p).m n = some a := fun n a h => by
    unfold Rho.put
    simp only
    rw [if_neg (Nat.ne_of_lt (hS.dom n a h))]
    exact h
  have hn : ∀ (q : Addr) (u : HO), H q = some u → (ρ.hide p).no q → (ρ.put S.length p).no q := fun q vs _ h => by
    obtain ⟨h1, h2⟩ := Rho.no_hide h
    refine ⟨fun n z => ?_, h1.2⟩
    unfold Rho.put at z
    simp only at z
    split at z
    · cases z; exact h2 rfl
    · exact h1.1 n z
  have at_ : (ρ.put S.length p).m S.length = some p := by unfold Rho.put; simp
  have np := (hS.prv p (.inr rfl)).2
  refine ⟨⟨fun n m a h1 h2 => ?_, fun n a h => ?_, fun n o' e' => ?_, fun a h => ?_⟩, p, rfl, at_⟩
  · unfold Rho.put at h1 h2
    simp only at h1 h2
    split at h1 <;> split at h2
    · omega
    · cases h1; exact absurd h2 (np m)
    · cases h2; exact absurd h1 (np n)
    · exact hS.inj n m a h1 h2
  · unfold Rho.put at h
    simp only at h
    rw [List.length_append]
    split at h
    · simp; omega
    · have := hS.dom n a h; simp; omega
  · by_cases hlt : n < S.length
    · rw [List.getElem?_append_left hlt] at e'
      obtain ⟨a, ha, ok'⟩ := hS.obj n o' e'
      exact ⟨a, hm n a ha, ok'.re hm hn⟩
    · have hn' : n = S.length := by
        have := (List.getElem?_eq_some_iff.mp e').1
        simp at this; omega
      subst hn'
      simp at e'
      subst e'
      exact ⟨p, at_, vs, e, Rps.re hm hn l vs r⟩
  · obtain ⟨h1, h2⟩ := hS.prv a (.inl h)
    refine ⟨h1, fun n z => ?_⟩
    unfold Rho.put at z
    simp only at z
    split at z
    · cases z; exact hv h
    · exact h2 n z
end
/-! ### comprehensions -/
def wipeE (env : En) : List Nat → En
  | [] => env
  | v :: vs => (wipeE env vs).set v none
theorem EOk.wipe {K : PySem.W.Frag} {ρ : Rho} {H : Hp} {env : En} {σ : L2.St} (h : EOk K ρ H env σ) : ∀ vs : List Nat, EOk K ρ H (wipeE env vs) (L2.wipe σ vs)
  | [] => h
  | v :: vs => (EOk.wipe h vs).drop1
theorem wipe_get (σ : L2.St) (i : Nat) : ∀ vs : List Nat, i ∈ vs → i < σ.length → (L2.wipe σ vs)[i]? = some none
  | v :: vs, hm, hl => by
    unfold L2.wipe
    by_cases e : v = i
    · subst e
      rw [List.getElem?_set_self (by rw [wipe_length]; exact hl)]
    · rw [List.getElem?_set_ne e]
      exact wipe_get σ i vs (by rcases List.mem_cons.mp hm with z | z; exact absurd z.symm e; exact z) hl
theorem wipe_chg {σ σ' : L2.St} {is vs : List Nat} (c : Chg is (L2.wipe σ vs) σ') (hs : ∀ i ∈ is, i ∈ vs) : L2.wipe σ' vs = L2.wipe σ vs := by
  have hl : σ'.length = σ.length := by rw [c.1, wipe_length]
  apply List.ext_getElem?
  intro i
  by_cases hi : i < σ.length
  · by_cases hm : i ∈ vs
    · rw [wipe_get σ i vs hm hi, wipe_get σ' i vs hm (by omega)]
    · rw [wipe_out hm, c.2 i fun z => hm (hs i z)]
  · rw [List.getElem?_eq_none (by rw [wipe_length]; omega), List.getElem?_eq_none (by rw [wipe_length]; omega)]
open Classical in
noncomputable def lcD (g : GM) (tt : BM) (te : TM) (gd : Sto → Prop) (env : En) : List D → Sto → List D → R (List D)
  | [], S, acc => if gd S then .ok acc S else .bad
  | d :: ds, S, acc => if gd S then match g d env S with
    | .ok env1 S1 => match tt env1 S1 with
      | .ok b S2 => if b = true then match te env1 S2 with
          | .ok y S3 => if acc.length < 16777216 then lcD g tt te gd env ds S3 (acc ++ [y]) else .bad
          | _ => .bad
        else lcD g tt te gd env ds S2 acc
      | _ => .bad
    | _ => .bad
    else .bad
noncomputable def mLc (i : IM) (g : GM) (tt : BM) (te : TM) (vs : List Nat) : TM := fun env S => (i env S).bind fun p S1 => (lcD g tt te p.2 (wipeE env vs) p.1 S1 []).bind fun l S2 => .ok (.lst l) S2
noncomputable def mLcN (i : IM) (g : GM) (tt : BM) (te : TM) (vs : List Nat) : TM := fun env S => (i env S).bind fun p S1 => (lcD g tt te p.2 (wipeE env vs) p.1 S1 []).bind fun l S2 => R.new (.lst l) S2
def bYes : BM := fun _ S => .ok true S
structure DTs (X : Cx) (es : List Expr) (m : BM) : Prop where
  p : PTs X es (tT X.K W0 m)
theorem PTs.imp {X : Cx} {e : List Expr} {t t' : TT} (h : PTs X e t) (i : ∀ σ H Q, t' σ H Q → t σ H Q) : PTs X e t' := ⟨fun pins s σ H Q I q => h.run pins s σ H Q I (i σ H Q q)⟩
theorem ts_nil {X : Cx} : DTs X [] bYes := ⟨PTs.imp pts_nil fun σ H Q ⟨ρ, S, env, hS, hE, h⟩ => h ρ H true hS .refl rfl⟩
theorem ts_one {X : Cx} {c : Expr} {m : BM} (h : DT X W0 c m) : DTs X [c] m := ⟨pts_one h.p⟩
section
variable {K : PySem.W.Frag} {W : WX}
theorem of_lc {i : IM} {g : GM} {tt : BM} {te : TM} {vs is : List Nat} {σ : L2.St} {H : Hp} {Q : VK} {fin : List D → Sto → R D} (his : ∀ i ∈ is, i ∈ vs)
    (hfin : ∀ {ρ : Rho} {S : Sto} {H : Hp} {p : Addr} {l : List D} {us : List V} {ρ0 : Rho} {H0 : Hp}, SOk K (ρ.hide p) S H → H p = some (.lst us) → Rps K (ρ.hide p) H l us → ¬ ρ.pv p → H0 p = none → Stp ρ0 ρ H0 H → Post K W (Rp K) ρ0 H0 σ (fin l S) Q → Q (.ref p) H)
    (h : tE K W (fun env S => (i env S).bind fun p S1 => (lcD g tt te p.2 (wipeE env vs) p.1 S1 []).bind fin) σ H Q) : tLc (tI K W i) (gD K is g) (tT K W0 tt) (tE K W0 te) vs σ H Q := by
  obtain ⟨ρ, S, env, hS, hE, h⟩ := h
  refine ⟨ρ, S, env, hS, hE, ?_⟩
  cases hi' : i env S with
  | exc C fs S1 =>
    simp only [hi', R.bind_exc] at h
    exact h
  | bad => simp only [hi', R.bind_bad] at h; exact h.elim
  | ok p S1 =>
    obtain ⟨l, gd⟩ := p
    simp only [hi', R.bind_ok] at h
    intro ρ1 H1 J hS1 st1 it D hD
    have hv1 : ¬ ρ1.pv D := (hS1.noN hD).2
    refine ⟨fun k m H' => m = l.length - k ∧ k ≤ l.length ∧ ∃ ρ' S' acc us, SOk K (ρ'.hide D) S' H' ∧ ¬ ρ'.pv D ∧ Stp ρ1 ρ' H1 H' ∧ H' D = some (.lst us) ∧ Rps K (ρ'.hide D) H' acc us ∧ EOk K (ρ'.hide D) H' (wipeE env vs) (L2.wipe σ vs) ∧
        Post K W (Rp K) ρ1 H1 σ ((lcD g tt te gd (wipeE env vs) (l.drop k) S' acc).bind fin) Q,
      ⟨l.length, by simp, Nat.zero_le _, ρ1, S1, [], [], hS1.hideN hD, hv1, .alloc hD, upd_same, rfl, ((hE.step hS st1).hideN hD).wipe vs, by simpa using h.step st1⟩, ?_⟩
    rintro k m H' ⟨rfl, hk, ρ', S', acc, us, hS', hv', st', eD, racc, hE', h'⟩
    by_cases hlt : k < l.length
    · right
      rw [List.drop_eq_getElem_cons hlt] at h'
      unfold lcD at h'
      split at h'
      case isFalse => exact h'.elim
      rename_i hgd
      refine ⟨it.goes k ρ' S' H' hlt hS'.unhide st' hgd, fun H2 => ∃ ρ2 S2 acc2 us2, SOk K (ρ2.hide D) S2 H2 ∧ ¬ ρ2.pv D ∧ Stp ρ1 ρ2 H1 H2 ∧ H2 D = some (.lst us2) ∧ Rps K (ρ2.hide D) H2 acc2 us2 ∧ EOk K (ρ2.hide D) H2 (wipeE env vs) (L2.wipe σ vs) ∧
        Post K W (Rp K) ρ1 H1 σ ((lcD g tt te gd (wipeE env vs) (l.drop (k + 1)) S2 acc2).bind fin) Q, fun H2 q => ⟨l.length - (k + 1), by omega, rfl, hlt, q⟩, fun x H2 y => ?_⟩
      have gdH := it.yields k (ρ'.hide D) S' H' x H2 hlt hS' (st'.hide hD) hgd y
      obtain ⟨d, hd, hS2, st2, r2⟩ := gdH
      have hd' : d = l[k] := by simp [hlt] at hd; exact hd.symm
      subst hd'
      cases hg' : g l[k] (wipeE env vs) S' with
      | exc C fs S3 => rw [hg'] at h'; exact h'.elim
      | bad => rw [hg'] at h'; exact h'.elim
      | ok env3 S3 =>
        rw [hg'] at h'
        refine ⟨ρ'.hide D, S', wipeE env vs, l[k], hS2, hE'.step hS' st2, r2, env3, S3, hg', fun ρ4 H4 σ4 hS4 st4 hE4 chg => ⟨wipe_chg chg his, ?_⟩⟩
        refine ⟨ρ4, S3, env3, hS4, hE4, ?_⟩
        simp only at h'
        cases ht' : tt env3 S3 with
        | exc C fs S4 => rw [ht'] at h'; exact h'.elim
        | bad => rw [ht'] at h'; exact h'.elim
        | ok b S5 =>
          rw [ht'] at h'
          intro ρ6 H6 b' hS6 st6 eb
          cases eb
          simp only at h'
          have stB : Stp (ρ'.hide D) ρ6 H' H6 := (st2.trans st4).trans st6
          have hE6 : EOk K ρ6 H6 (wipeE env vs) (L2.wipe σ vs) := hE'.step hS' stB
          have racc6 := Rps.step hS' stB acc us racc
          have eD6 : H6 D = some (.lst us) := stB.keep D _ eD (hS'.prv D (.inr rfl)).2
          cases b with
          | false =>
            simp only [Bool.false_eq_true, if_false] at h' ⊢
            obtain ⟨ρ7, rfl, hv7, st7⟩ := stB.unhide hv'
            exact ⟨ρ7, S5, acc, us, hS6, hv7, st'.trans st7, eD6, racc6, hE6, h'⟩
          | true =>
            simp only [if_true] at h' ⊢
            refine ⟨ρ6, S5, env3, hS6, hE4.step hS4 st6, ?_⟩
            cases he' : te env3 S5 with
            | exc C fs S8 => rw [he'] at h'; exact h'.elim
            | bad => rw [he'] at h'; exact h'.elim
            | ok z S8 =>
              rw [he'] at h'
              simp only at h'
              split at h'
              case isFalse => exact h'.elim
              rename_i hlen
              intro ρ9 H9 yv hS9 st9 ry
              have stC : Stp (ρ'.hide D) ρ9 H' H9 := stB.trans st9
              have eD9 : H9 D = some (.lst us) := stC.keep D _ eD (hS'.prv D (.inr rfl)).2
              have racc9 := Rps.step hS' stC acc us racc
              obtain ⟨ρ7, rfl, hv7, st7⟩ := stC.unhide hv'
              have mkD : ∀ u, H9 D = some u → Mk u := fun u hu => by rw [eD9] at hu; cases hu; trivial
              have pvD : (ρ7.hide D).pv D := .inr rfl
              refine ⟨us, eD9, by rw [sizeLine16, ← racc9.length]; exact hlen, ρ7, S8, acc ++ [z], us ++ [yv], hS9.pupd pvD, hv7, (st'.trans st7).putP hD, upd_same, ?_, (hE'.step hS' stC).pupd mkD pvD, h'⟩
              exact Rps.pupd mkD pvD _ _ (racc9.append (es := [z]) (ws := [yv]) ⟨yv, [], rfl, ry, rfl⟩)
    · left
      have ek : k = l.length := by omega
      subst ek
      rw [List.drop_length] at h'
      unfold lcD at h'
      split at h'
      case isFalse => exact h'.elim
      rename_i hgd
      exact ⟨it.stops ρ' S' H' hS'.unhide st' hgd, hfin hS' eD racc hv' hD st' h'⟩
end
section
variable {X : Cx} {W : WX} {elt tg iter : Expr} {ifs : List Expr} {scope : Scope} {own : List (Str × Nat)} {pos spos py : Pos} {i : IM} {g : GM} {tt : BM} {te : TM} {is : List Nat}
theorem d_lc (hc : X.calm = true) (hN : X.N.Nodup) (hi : DI X W tg iter i) (ok : BlkOk X.N X.env.scope scope own) (his : ∀ i ∈ is, i ∈ own.map (·.2))
    (hg : ∀ (s : Shared) (H : Hp) (C : Addr) (cl : List (Str × Addr)) (fp : List Addr), DG (X.blk s H scope (compEnvC scope cl C X.env) fp) is tg g) (ht : ∀ (s : Shared) (H : Hp) (C : Addr) (cl : List (Str × Addr)) (fp : List Addr), DTs (X.blk s H scope (compEnvC scope cl C X.env) fp) ifs tt)
    (he : ∀ (s : Shared) (H : Hp) (C : Addr) (cl : List (Str × Addr)) (fp : List Addr), DE (X.blk s H scope (compEnvC scope cl C X.env) fp) W0 elt te) (hs : ∀ x, foldedSetIterable iter X.env x = pure x := by intro _; rfl) :
    DE X W (.ListComp elt [⟨tg, iter, ifs, 0⟩] scope pos) (mLc i g tt te (own.map (·.2))) :=
  ⟨PE.imp (pe_lc hc hN hi.p ok (fun s H C cl fp => (hg s H C cl fp).p) (fun s H C cl fp => (ht s H C cl fp).p) (fun s H C cl fp => (he s H C cl fp).p) hs) fun σ H Q h =>
    of_lc his (fun hS e r hv _ st hf => by obtain ⟨h1, h2⟩ := hidden_lst hS e r hv; exact hf _ _ _ h1 st h2) h⟩
theorem hid_st {ρ ρ0 : Rho} {H H0 : Hp} {p : Addr} {n : Nat} (st : Stp ρ0 ρ H0 H) (hp : H0 p = none) (hd : ∀ m a, ρ0.m m = some a → m ≠ n) : Stp ρ0 (ρ.put n p) H0 H :=
  ⟨fun m a h => by unfold Rho.put; simp only; rw [if_neg (hd m a h)]; exact st.up m a h, fun m a h => by
    unfold Rho.put at h
    simp only at h
    split at h
    · cases h; exact .inr hp
    · exact st.new m a h, st.pv, st.pvu, st.keep, st.live⟩
theorem d_lcN (hc : X.calm = true) (hN : X.N.Nodup) (hi : DI X W tg iter i) (ok : BlkOk X.N X.env.scope scope own) (his : ∀ i ∈ is, i ∈ own.map (·.2))
    (hg : ∀ (s : Shared) (H : Hp) (C : Addr) (cl : List (Str × Addr)) (fp : List Addr), DG (X.blk s H scope (compEnvC scope cl C X.env) fp) is tg g) (ht : ∀ (s : Shared) (H : Hp) (C : Addr) (cl : List (Str × Addr)) (fp : List Addr), DTs (X.blk s H scope (compEnvC scope cl C X.env) fp) ifs tt)
    (he : ∀ (s : Shared) (H : Hp) (C : Addr) (cl : List (Str × Addr)) (fp : List Addr), DE (X.blk s H scope (compEnvC scope cl C X.env) fp) W0 elt te) (hs : ∀ x, foldedSetIterable iter X.env x = pure x := by intro _; rfl) :
    DE X W (.ListComp elt [⟨tg, iter, ifs, 0⟩] scope pos) (mLcN i g tt te (own.map (·.2))) :=
  ⟨PE.imp (pe_lc hc hN hi.p ok (fun s H C cl fp => (hg s H C cl fp).p) (fun s H C cl fp => (ht s H C cl fp).p) (fun s H C cl fp => (he s H C cl fp).p) hs) fun σ H Q h =>
    of_lc his (fun {ρ S H p l us ρ0 H0} hS e r hv hp st hf => by
      obtain ⟨h1, h2⟩ := hidden_loc hS e r hv
      exact hf _ _ _ h1 (hid_st st hp fun m a h => Nat.ne_of_lt (hS.dom m a (st.up m a h))) h2) h⟩
/-- name = [..] on one line, the name a local -/
theorem s_setLc {j : Nat} {y : Str} (hc : X.calm = true) (hN : X.N.Nodup) (hy : X.N[j]? = some y) (hyl : X.env.scope.names.lookup y = some .local)
    (hsw : swapsWith (.ListComp elt [⟨tg, iter, ifs, 0⟩] scope pos) (some (.Name y py)) spos.line X.env = pure true) (hi : DI X W tg iter i) (ok : BlkOk X.N X.env.scope scope own) (his : ∀ i ∈ is, i ∈ own.map (·.2))
    (hg : ∀ (s : Shared) (H : Hp) (C : Addr) (cl : List (Str × Addr)) (fp : List Addr), DG (X.blk s H scope (compEnvC scope cl C X.env) fp) is tg g) (ht : ∀ (s : Shared) (H : Hp) (C : Addr) (cl : List (Str × Addr)) (fp : List Addr), DTs (X.blk s H scope (compEnvC scope cl C X.env) fp) ifs tt)
    (he : ∀ (s : Shared) (H : Hp) (C : Addr) (cl : List (Str × Addr)) (fp : List Addr), DE (X.blk s H scope (compEnvC scope cl C X.env) fp) W0 elt te) (hs : ∀ x, foldedSetIterable iter X.env x = pure x := by intro _; rfl) :
    DS X W (.Assign [.Name y py] (.ListComp elt [⟨tg, iter, ifs, 0⟩] scope pos) spos) (sAsg (mLc i g tt te (own.map (·.2))) (gN j)) :=
  ⟨PS.imp (ps_setLc hc hN hy hyl hsw hi.p ok (fun s H C cl fp => (hg s H C cl fp).p) (fun s H C cl fp => (ht s H C cl fp).p) (fun s H C cl fp => (he s H C cl fp).p) hs) fun T σ H ⟨ρ, S, env, hS, hE, h⟩ =>
    of_lc (W := W) his (fun hS e r hv _ st hf => by obtain ⟨h1, h2⟩ := hidden_lst hS e r hv; exact hf _ _ _ h1 st h2)
      (SPost.bindK (rel := Rp X.K) hS hE h fun v H1 ρ1 S1 a h1 h2 h3 h4 h5 => h5 ρ1 H1 _ h1 .refl (h2.set h4))⟩
theorem s_setLcN {j : Nat} {y : Str} (hc : X.calm = true) (hN : X.N.Nodup) (hy : X.N[j]? = some y) (hyl : X.env.scope.names.lookup y = some .local)
    (hsw : swapsWith (.ListComp elt [⟨tg, iter, ifs, 0⟩] scope pos) (some (.Name y py)) spos.line X.env = pure true) (hi : DI X W tg iter i) (ok : BlkOk X.N X.env.scope scope own) (his : ∀ i ∈ is, i ∈ own.map (·.2))
    (hg : ∀ (s : Shared) (H : Hp) (C : Addr) (cl : List (Str × Addr)) (fp : List Addr), DG (X.blk s H scope (compEnvC scope cl C X.env) fp) is tg g) (ht : ∀ (s : Shared) (H : Hp) (C : Addr) (cl : List (Str × Addr)) (fp : List Addr), DTs (X.blk s H scope (compEnvC scope cl C X.env) fp) ifs tt)
    (he : ∀ (s : Shared) (H : Hp) (C : Addr) (cl : List (Str × Addr)) (fp : List Addr), DE (X.blk s H scope (compEnvC scope cl C X.env) fp) W0 elt te) (hs : ∀ x, foldedSetIterable iter X.env x = pure x := by intro _; rfl) :
    DS X W (.Assign [.Name y py] (.ListComp elt [⟨tg, iter, ifs, 0⟩] scope pos) spos) (sAsg (mLcN i g tt te (own.map (·.2))) (gN j)) :=
  ⟨PS.imp (ps_setLc hc hN hy hyl hsw hi.p ok (fun s H C cl fp => (hg s H C cl fp).p) (fun s H C cl fp => (ht s H C cl fp).p) (fun s H C cl fp => (he s H C cl fp).p) hs) fun T σ H ⟨ρ, S, env, hS, hE, h⟩ =>
    of_lc (W := W) his (fun {ρ S H p l us ρ0 H0} hS e r hv hp st hf => by
      obtain ⟨h1, h2⟩ := hidden_loc hS e r hv
      exact hf _ _ _ h1 (hid_st st hp fun m a h => Nat.ne_of_lt (hS.dom m a (st.up m a h))) h2)
      (SPost.bindK (rel := Rp X.K) hS hE h fun v H1 ρ1 S1 a h1 h2 h3 h4 h5 => h5 ρ1 H1 _ h1 .refl (h2.set h4))⟩
end
end Mi

namespace Mi
open PySem PySem.Spec PyProof.Rows L2
/-! ### promises of defs that run where no guard (of a repr) is up -/
structure FnG (P : Program) (w : World) (K : PySem.W.Frag) (g : Str → Option Value) (B : Heap) (CX : CXT) (k : Nat) (f : Addr) (fd : FuncData) (ps : List Str) (sp : Sp) : Prop where
  len : ∀ vs H Q E, sp vs H Q E → vs.length = ps.length
  go : ∀ {A : Around} {out : List Env} {s : Shared} {H : Hp} {args : Args} {us : List Value} {vs : List V} {Q : VK} {E : XK}, Room k A → A.guards = some [] → Env0 P w K g B A out s H →
    BindsTo s fd args (ps.zip us) → Vals vs us → sp vs H Q E → codeAny (model P w) A (.call (.ref f) args) (CR CX out P w H s Q E) s
/-- room for a call, where no guard is up -/
structure RmG (k : Nat) (A : Around) : Prop where
  r : Room k A
  no : A.guards = some []
theorem RmG.mono {j k : Nat} {A : Around} (h : RmG k A) (l : j ≤ k) : RmG j A := ⟨h.r.mono l, h.no⟩
theorem RmG.un {k : Nat} {A : Around} (h : RmG k A) : A.units + 16 * k + 200 < cLine := h.r.un
theorem RmG.units {k : Nat} {A : Around} (h : RmG k A) : A.units + 64 < cLine := h.r.units
section
variable {P : Program} {w : World} {K : PySem.W.Frag} {g : Str → Option Value} {B : Heap} {CX : CXT} {j k : Nat} {f : Addr} {fd : FuncData} {ps : List Str} {sp sp2 : Sp}
theorem FnG.up (F : FnG P w K g B CX j f fd ps sp) (h : j ≤ k) : FnG P w K g B CX k f fd ps sp :=
  ⟨F.len, fun room no env bi va pr => F.go (room.mono h) no env bi va pr⟩
theorem FnG.weak (F : FnG P w K g B CX k f fd ps sp) (i : ∀ vs H Q E, sp2 vs H Q E → sp vs H Q E) : FnG P w K g B CX k f fd ps sp2 :=
  ⟨fun vs H Q E z => F.len vs H Q E (i _ _ _ _ z), fun room no env bi va pr => F.go room no env bi va (i _ _ _ _ pr)⟩
/-- THE RULE for a def, by its body, where no guard is up -/
theorem fnG_mk {x qn : Str} {par : Arguments} {bd : List Stmt} {sc : Scope} {dv : List V} {kv : List (Str × V)} {N : List Str} (F : FunD K x qn par bd sc dv kv f fd) (S : FnScope N ps sc) (len : ∀ vs H Q E, sp vs H Q E → vs.length = ps.length)
    (hbody : ∀ (cd : Value) (A : Around) (out : List Env) (s : Shared) (H : Hp) (vs : List V) (Q : VK) (E : XK), Room k (A.deeper (envOfC qn sc s.heap.objs.size f cd)) → A.guards = some [] → sp vs H Q E →
      ∃ t : TS, PSs (cxOf CX P w K g B N qn sc f cd A out s H E) bd t ∧ t { nx := fun _ H' => Q .non H', rt := Q } (L2.start N vs) H) : FnG P w K g B CX (k + 1) f fd ps sp := by
  obtain ⟨oc, od, dV, kV, doc, pm, an, cd, ct, osl, rfl, lk, hcd, _, _⟩ := F.ex
  refine ⟨len, ?_⟩
  intro A out s H args us vs Q E room no env bi va pr
  have kin : K.In s.heap := env.mod.kin.keeps fun a o h => (env.bs a o h).1
  have noLim : s.heap.NoLimit := env.mod.nolimit.keeps fun a o h => (env.bs a o h).1
  have kinds : ∀ z ∈ ps.zip us, sc.names.lookup z.1 = some .local ∨ (sc.names.lookup z.1 = some .cell ∧ ((cellsFrom (s.heap.objs.size + 1) sc.names []).lookup z.1).isSome = true) := by
    intro z hz
    have hm : z.1 ∈ ps := (List.of_mem_zip (a := z.1) (b := z.2) hz).1
    cases S.par z.1 hm with
    | inl h => exact Or.inl h
    | inr h => exact Or.inr ⟨h, PySem.W.cellsFrom_some _ _ _ (Or.inl h)⟩
  refine codeAny_call_function room.depth (kin _ _ lk) rfl S.co S.gen rfl (PySem.W.codeRec_of kin hcd) (bi _ _ _ _ (wpAny_newFunctionEnv_cells S.kind kinds ?_))
  rintro _ rfl s1 inC
  refine ⟨noLim.keeps inC.toInCall.keep, codeAny_func ?_⟩
  obtain ⟨t, ht, hend⟩ := hbody cd A out s H vs Q E (room.deeper _) no pr
  have I0 := inv_start (CX := CX) (P := P) (w := w) (K := K) (mg := g) (base := B) (E := E) S room.hd env (len _ _ _ _ pr) va inC
  have done : ∀ (σ : L2.St) (H' : Hp) (s' : Shared) (v : V) (u : Value), Inv (cxOf CX P w K g B N qn sc f cd A out s H E) [] σ H' s' → RelV v u → Q v H' → CE out P w H s Q u s' :=
    fun σ H' s' v u I r q => ⟨v, H', I.os, I.bare, I.base, I.hok, r, q⟩
  refine wpAny_mono (ht.run [] s1 (L2.start N vs) H _ I0 hend) ?_ (fun _ _ z => z)
  intro fl s' z
  match fl, z with
  | .ret u, ⟨v, σ, H', I, r, q⟩ => exact done σ H' s' v u I r q
  | .next, ⟨σ, H', I, q⟩ => exact done σ H' s' .non .none I rfl q
  | .brk, ⟨_, _, _, q⟩ => exact q.elim
  | .cont, ⟨_, _, _, q⟩ => exact q.elim
end
section
variable {X : Cx} {CX : CXT} {k : Nat} {f : Addr} {fd : FuncData} {ps ks : List Str} {sp : Sp} {E : L2.St → XK} {σ : L2.St} {pins : List (Addr × Obj)} {H : Hp} {s : Shared} {Q : VK} {us ws : List Value} {vs zs : List V}
/-- the callee's end, seen from the caller -/
theorem callee_end (out : PassesAt CX X σ (E σ)) (I : Inv X pins σ H s) (r : Result) (s' : Shared) (h : CR CX X.stack X.prog X.w H s Q (E σ) r s') :
    match (generalizing := false) r with | .ok (.ret u) => EP X pins σ Q u s' | .ok _ => False | .error e => X.xe e s' := by
  match r, h with
  | .error e, h => exact out pins H s e s' I h
  | .ok (.ret u), h => exact I.after h
theorem run_G (F : FnG X.prog X.w X.K X.mg X.base CX k f fd ps sp) (room : Room k X.A) (no : X.A.guards = some []) (hb : Binds X.K fd ps []) (out : PassesAt CX X σ (E σ))
    (I : Inv X pins σ H s) (va : Vals vs us) (pr : sp vs H Q (E σ)) : wpAny (model X.prog X.w) X.A (call (.ref f) us) (EP X pins σ Q) X.xe s := by
  have len : us.length = ps.length := va.length.symm.trans (F.len _ _ _ _ pr)
  have bi : BindsTo s fd ⟨us, []⟩ (ps.zip us) := by
    have := hb s us I.kIn (by simpa using len)
    simpa using this
  refine wpAny_call (codeAny_mono (F.go room no I.env0 bi va pr) ?_)
  intro r s' h
  have e := callee_end out I r s' h
  match r, e with
  | .error _, e => exact e
  | .ok (.ret _), e => exact e
theorem run_Gk {n1 : Nat} {gv : List Value → List Value → List Value} {gV : List V → List V → List V} (F : FnG X.prog X.w X.K X.mg X.base CX k f fd ps sp) (room : Room k X.A) (no : X.A.guards = some []) (hb : KBn X.K fd ps n1 ks gv gV)
    (out : PassesAt CX X σ (E σ)) (I : Inv X pins σ H s) (va : Vals vs us) (vz : Vals zs ws) (l1 : vs.length = n1) (l2 : zs.length = ks.length) (pr : sp (gV vs zs) H Q (E σ)) :
    wpAny (model X.prog X.w) X.A (call (.ref f) us (ks.zip ws)) (EP X pins σ Q) X.xe s := by
  have bi := hb.to s us ws I.kIn (va.length.symm.trans l1) (vz.length.symm.trans l2)
  refine wpAny_call (codeAny_mono (F.go room no I.env0 bi (hb.rel va vz) pr) ?_)
  intro r s' h
  have e := callee_end out I r s' h
  match r, e with
  | .error _, e => exact e
  | .ok (.ret _), e => exact e
variable {x : Str} {p pos : Pos} {e : Expr} {es : List Expr} {t : TA}
theorem pe_callG (F : FnG X.prog X.w X.K X.mg X.base CX k f fd ps sp) (room : Room k X.A) (no : X.A.guards = some []) (gl : Gl X x) (at_ : X.mg x = some (.ref f)) (kp : PySem.W.keepIn X.K (.ref f) = true) (hb : Binds X.K fd ps [])
    (out : ∀ σ, PassesAt CX X σ (E σ)) (ha : PA X (e :: es) t) (hdb : (x == ("__debug__" : Str)) = false := by decide) (he : starEach (e :: es) X.env = (false, eval e X.env) :: starEach es X.env := by rfl)
    (hpl : (backTo pos (starEach es X.env)).any (·.1) = false := by rfl) : PE X (.Call (.Name x p) (e :: es) [] pos) (tCallS sp E t) := by
  constructor
  intro pins s σ H Q I h
  have step := ha.run pos pins s σ H _ I h
  refine wpAny_Call_Name_kw (ld_glob I gl at_ (PySem.W.callWith_K (h₀ := X.base) I.ok.mod.kin kp ?_ he hpl) hdb)
  refine thn step ?_
  rintro us s1 ⟨vs, H1, I1, va, pr⟩
  exact ⟨I1.kIn, run_G F room no hb (out σ) I1 va pr⟩
end
/-! ### the end of a law, by such a promise -/
section
variable {P : Program} {w : World} {K : PySem.W.Frag} {g mb : Str → Option Value} {CX : CXT} {k : Nat} {fa a : Addr} {fd : FuncData} {x : Str} {sp : Sp} {t : Shared} {vs : List Value} {ns : List Int}
/-- an abstract heap that tells at most the script -/
structure Told (K : PySem.W.Frag) (t : Shared) (a : Addr) (H : Hp) : Prop where
  only : Only H
  one : ∀ b, H b ≠ none → b = a
  out : H a ≠ none → K.lookup a = none
theorem top_core {o : Obj} {il : Array Value} {n : Nat} {H : Hp} (T : Told K t a H) (hS : SqL K H a (ns.map V.int)) (hok : HOk P w H t.heap) (KX : K.In t.heap) (hns : t.heap.Ns mainGlobals g) (hb : t.heap.Ns builtinsNs mb)
    (hbb : ∀ x : Str, x ≠ "__name__" → mb x = bootBuiltins x) (hlim : t.heap.NoLimit) (hg : t.gens = #[]) (ha : t.heap.get? a = some o) (hd : o.data = .seq il n) (room : Room k callerA)
    (F : ∀ base : Heap, K.In base → base.Ns mainGlobals g → FnG P w K g base CX k fa fd [x] sp) (hbind : ∀ (s : Shared) (u : Value), BindsTo s fd ⟨[u], []⟩ [(x, u)])
    (hsp : ∀ H : Hp, Only H → SqL K H a (ns.map V.int) → sp [.ref a] H (fun v _ => v = .bl true) fun _ _ _ => False) (hCX : ∀ H e s', CX [] H t (fun _ _ _ => False) e s' → False) :
    codeAny (model P w) callerA (.call (.ref fa) ⟨[.ref a], []⟩) (fun r s' => r = .ok (.ret (.bool true)) ∧ OldK t.heap s'.heap ∧ s'.os = t.os ∧ AllBare s'.gens) t := by
  have free : ∀ {b : Addr} {u : Obj}, t.heap.get? b = some u → (∀ il n, u.data ≠ .seq il n) → H b = none := by
    intro b u hu hno
    apply Classical.byContradiction
    intro hb
    have := T.one b hb
    subst this
    rw [ha] at hu
    cases hu
    exact hno _ _ hd
  have nsB : ∀ {b : Addr} {m : Str → Option Value}, t.heap.Ns b m → (hidT t.heap H).Ns b m := by
    rintro b m ⟨u, es, ep, hu, hdat, hrest⟩
    exact ⟨u, es, ep, hidT_get hu (free hu fun il n z => by rw [hdat] at z; cases z), hdat, hrest⟩
  have inB : K.In (hidT t.heap H) := by
    intro b u hu
    refine hidT_get (KX b u hu) (Classical.byContradiction fun hb => ?_)
    have e1 := T.one b hb
    subst e1
    rw [T.out hb] at hu
    cases hu
  obtain ⟨mc, l1, l2⟩ := hlim
  have env : Env0 P w K g (hidT t.heap H) callerA [] t H :=
    ⟨rfl, ⟨inB, nsB hns, ⟨mb, nsB hb, hbb⟩, ⟨mc, nsB l1, l2⟩⟩, fun b u hu => of_hidT hu, Nat.le_of_eq (hidT_size _ _), trivial, fun b hb => by simp [frs] at hb, hok, .of_eq hg⟩
  refine codeAny_mono ((F _ inB (nsB hns)).go (us := [.ref a]) (vs := [.ref a]) room rfl env (hbind t (.ref a)) (.cons rfl .nil) (hsp H T.only hS)) ?_
  intro r s' h
  match r, h with
  | .error e, h => exact (hCX H e s' h).elim
  | .ok (.ret u), ⟨v, H2, hos, hbare, hun, hok2, hr, hv⟩ =>
    have hv' : v = V.bl true := hv
    subst hv'
    have hu : u = Value.bool true := hr
    subst hu
    refine ⟨rfl, OldK.of_keep ?_, hos, hbare⟩
    intro b o' hb
    cases q : H b with
    | none => exact hun.keep b o' hb q (by simp [frs]) (by simp)
    | some z =>
      cases T.only b with
      | inl z0 => rw [q] at z0; cases z0
      | inr z0 =>
        obtain ⟨ob, xs, hz⟩ := z0
        have old := (hok b _ hz).1
        have new := (hok2 b _ (hun.frzs b ob _ hz)).1
        rw [hb] at old
        cases old
        exact new
theorem top_call (KX : K.In t.heap) (hns : t.heap.Ns mainGlobals g) (hb : t.heap.Ns builtinsNs mb) (hbb : ∀ x : Str, x ≠ "__name__" → mb x = bootBuiltins x) (hlim : t.heap.NoLimit) (hg : t.gens = #[])
    (ha : t.heap.get? a = some { cls := .type "list", data := .seq vs.toArray }) (hi : IntsAre vs ns) (hl : ns.length ≤ sizeLine) (room : Room k callerA)
    (F : ∀ base : Heap, K.In base → base.Ns mainGlobals g → FnG P w K g base CX k fa fd [x] sp) (hbind : ∀ (s : Shared) (u : Value), BindsTo s fd ⟨[u], []⟩ [(x, u)])
    (hsp : ∀ H : Hp, Only H → SqL K H a (ns.map V.int) → sp [.ref a] H (fun v _ => v = .bl true) fun _ _ _ => False) (hCX : ∀ H e s', CX [] H t (fun _ _ _ => False) e s' → False) :
    codeAny (model P w) callerA (.call (.ref fa) ⟨[.ref a], []⟩) (fun r s' => r = .ok (.ret (.bool true)) ∧ OldK t.heap s'.heap ∧ s'.os = t.os ∧ AllBare s'.gens) t := by
  have va : Vals (ns.map V.int) vs := vals_ints hi
  have hlen := hi.length
  cases hk : K.lookup a with
  | some u =>
    have hu := KX a u hk
    rw [ha] at hu
    cases hu
    have T : Told K t a (fun _ => none) := ⟨fun b => .inl rfl, fun b z => (z rfl).elim, fun z => (z rfl).elim⟩
    have hz : vs.toArray.size ≤ sizeLine := by
      rw [List.size_toArray, hlen]
      exact hl
    exact top_core T (.inr ⟨_, vs.toArray, _, hk, rfl, rfl, rfl, hz, by simpa using va⟩) (fun b z hb => by cases hb) KX hns hb hbb hlim hg ha rfl room F hbind hsp hCX
  | none =>
    let fz : HO := .frz { cls := .type "list", data := .seq vs.toArray } (.lst (ns.map V.int))
    let H : Hp := fun b => if b = a then some fz else none
    have Ha : H a = some fz := if_pos rfl
    have Hn : ∀ b, b ≠ a → H b = none := fun b h => if_neg h
    have T : Told K t a H := ⟨fun b => by
      by_cases e : b = a
      · rw [e]; exact .inr ⟨_, _, Ha⟩
      · exact .inl (Hn b e), fun b z => Classical.byContradiction fun e => z (Hn b e), fun _ => hk⟩
    refine top_core T (.inl (.inr ⟨_, Ha⟩)) ?_ KX hns hb hbb hlim hg ha rfl room F hbind hsp hCX
    intro b z hb
    by_cases e : b = a
    · subst e
      rw [Ha] at hb
      cases hb
      exact ⟨ha, by simpa using hl, vs, _, va, ha⟩
    · rw [Hn b e] at hb
      cases hb
end
/-- a law: F gives the written part, the function object, the promise over every base -/
theorem walk_G {l : PySem.W.OpenLaw} {n k : Nat} {q : Program} {loose : List Str} {XP : (Str → Option Value) → Heap → Prop} {YP : World → Heap → Prop} {d : DefRec} {CX : CXT} {x : Str}
    (most : l.most = some n) (le : n ≤ sizeLine) (nod : d.params.defaults = []) (room : Room k callerA)
    (F : ∀ (w : World) (g : Str → Option Value) (fa : Addr) (h : Heap), YP w h → h.Ns mainGlobals g → g d.name = some (.ref fa) → ∃ (K : PySem.W.Frag) (fd : FuncData) (sp : Sp), K.In h ∧
        (∀ (s : Shared) (u : Value), BindsTo s fd ⟨[u], []⟩ [(x, u)]) ∧
        (∀ (H : Hp) (a : Addr) (ns : List Int), ns.length ≤ n → Only H → SqL K H a (ns.map V.int) → sp [.ref a] H (fun v _ => v = .bl true) fun _ _ _ => False) ∧
        ∀ B : Heap, K.In B → B.Ns mainGlobals g → FnG l.prog w K g B CX k fa fd [x] sp)
    (noX : ∀ (H : Hp) (s : Shared) (e : Value) (s' : Shared), CX [] H s (fun _ _ _ => False) e s' → False) : PySem.W.WalkO q loose XP YP l.row.toRowW d [] (fun f vs => PySem.call f vs) := by
  refine Att.attach_call most nod ?_
  intro w s0 s1 g mb fa o pm cd doc a vs ns G Y ho hd hcd hmg hobj hints hlen hg
  obtain ⟨K, fd, sp, KX, hb, hsp, hF⟩ := F w g fa _ Y G.T.g hmg
  exact top_call KX G.T.g G.T.b G.T.builtins G.T.nolimit hg hobj hints (Nat.le_trans hlen le) room hF hb (fun H => hsp H a ns hlen) fun H => noX H s1
end Mi

namespace Mi
open PySem PySem.Spec PyProof.Rows L2
/-! ### defs -/
abbrev FM := List D → Sto → R D
def spD (K : PySem.W.Frag) (np : Nat) (m : FM) : Sp := fun vs H Q E => ∃ ρ S ds, ds.length = np ∧ SOk K ρ S H ∧ Rps K ρ H ds vs ∧ Post K (fun c d _ H => E c d H) (Rp K) ρ H [] (m ds S) Q
structure Got (K : PySem.W.Frag) (mg : Str → Option Value) (x : Str) (st : Stmt) (f : Addr) (fd : FuncData) : Prop where
  fn : FunD K x x (defArgs st) (defBody st) (defScope st) [] [] f fd
  gl : mg x = some (.ref f)
structure FD (P : Program) (w : World) (K : PySem.W.Frag) (mg : Str → Option Value) (base : Heap) (x : Str) (st : Stmt) (ps : List Str) (k : Nat) (m : FM) : Prop where
  ex : ∃ f fd, Got K mg x st f fd ∧ FnG P w K mg base (L2.CX P w) k f fd ps (spD K ps.length m)
def startE (n : Nat) (ds : List D) : En := ds.map some ++ List.replicate (n - ds.length) none
def fnP (n : Nat) (b : SM) : FM := fun ds S => match b (startE n ds) S with
  | .nx _ S' => .ok .non S'
  | .rt d S' => .ok d S'
  | .exc C fs _ S' => .exc C fs S'
  | _ => .bad
theorem start_ok {K : PySem.W.Frag} {ρ : Rho} {H : Hp} {N : List Str} {ds : List D} {vs : List V} (h : Rps K ρ H ds vs) : EOk K ρ H (startE N.length ds) (L2.start N vs) := by
  unfold startE L2.start
  have hl := h.length
  refine ⟨by simp [hl], fun i d e => ?_⟩
  by_cases hi : i < ds.length
  · rw [List.getElem?_append_left (by simpa using hi), List.getElem?_map] at e
    cases q : ds[i]? with
    | none => rw [q] at e; cases e
    | some d' =>
      rw [q] at e; cases e
      obtain ⟨v, h1, h2⟩ := h.get q
      exact ⟨v, by rw [List.getElem?_append_left (by simpa [← hl] using hi), List.getElem?_map, h1]; rfl, h2⟩
  · rw [List.getElem?_append_right (by simpa using hi), List.getElem?_replicate] at e
    split at e <;> cases e
section
variable {P : Program} {w : World} {K : PySem.W.Frag} {mg : Str → Option Value} {base : Heap} {x : Str} {st : Stmt} {N ps : List Str} {k : Nat}
/-- THE RULE for a def -/
theorem fd_mk {b : SM} {f : Addr} {fd : FuncData} (G : Got K mg x st f fd) (S : FnScope N ps (defScope st))
    (hb : ∀ (X : Cx) (W : WX) (cdv : Value) (A : Around) (outer : List Env) (s : Shared) (H : Hp) (E : XK), X = cxOf (L2.CX P w) P w K mg base N x (defScope st) f cdv A outer s H E → W = (fun cls d _ H => E cls d H) → Takes X W → PassesOwn (model X.prog X.w) X.A X.env X.xe → RmG k X.A → DB X W (defBody st) b) :
    FD P w K mg base x st ps (k + 1) (fnP N.length b) := by
  refine ⟨f, fd, G, fnG_mk G.fn S (fun vs H Q E h => ?_) fun cdv A outer s H vs Q E hr no h => ?_⟩
  · obtain ⟨ρ, S, ds, hl, _, h2, _⟩ := h
    rw [← h2.length, hl]
  · refine ⟨_, (hb _ _ cdv A outer s H E rfl rfl (takes_of rfl rfl rfl rfl) (passes_of rfl) ⟨hr, no⟩).p, ?_⟩
    obtain ⟨ρ, S, ds, hl, hS, h2, h3⟩ := h
    refine ⟨ρ, S, startE N.length ds, hS, start_ok h2, ?_⟩
    unfold fnP at h3
    revert h3
    generalize b (startE N.length ds) S = r
    intro h3
    cases r with
    | nx env S' => exact fun ρ' H' σ' q1 q2 q3 => h3 ρ' H' .non q1 q2 rfl
    | rt d S' => exact fun ρ' H' v q1 q2 q3 => h3 ρ' H' v q1 q2 q3
    | exc C fs env S' => exact fun ρ' H' σ' d vs q1 q2 q3 q4 q5 q6 => h3 ρ' H' d vs q1 q2 q4 q5 q6
    | bk env S' => exact h3.elim
    | ct env S' => exact h3.elim
    | bad => exact h3.elim
theorem FD.mono {j : Nat} {m : FM} (F : FD P w K mg base x st ps j m) (h : j ≤ k) : FD P w K mg base x st ps k m := by
  obtain ⟨f, fd, G, F⟩ := F.ex
  exact ⟨f, fd, G, F.up h⟩
/-- another reading of the same def -/
theorem FD.imp {m m' : FM} (F : FD P w K mg base x st ps k m) (h : ∀ ρ S H ds E Q, ds.length = ps.length → SOk K ρ S H → Post K E (Rp K) ρ H [] (m' ds S) Q → Post K E (Rp K) ρ H [] (m ds S) Q) : FD P w K mg base x st ps k m' := by
  obtain ⟨f, fd, G, F⟩ := F.ex
  exact ⟨f, fd, G, F.weak fun vs H Q E ⟨ρ, S, ds, h1, h2, h3, h4⟩ => ⟨ρ, S, ds, h1, h2, h3, h ρ S H ds _ Q h1 h2 h4⟩⟩
end
/-! ### what a call leaves of the store: nothing of its own -/
mutual
def D.lo (n : Nat) : D → Prop
  | .tup l => D.los n l
  | .lst l => D.los n l
  | .wls l => D.los n l
  | .dic _ l => D.los n l
  | .ftp l => D.los n l
  | .loc m => m < n
  | _ => True
def D.los (n : Nat) : List D → Prop
  | [] => True
  | d :: ds => D.lo n d ∧ D.los n ds
end
def kvBelow {κ : Type} (n : Nat) : List (κ × D) → Prop
  | [] => True
  | d :: ds => D.lo n d.2 ∧ kvBelow n ds
def O.lo (n : Nat) : O → Prop
  | .lst l => D.los n l
  | .dct l => kvBelow n l
  | .dcT l => kvBelow n l
  | .ins _ l => kvBelow n l
def gcOk (S S' : Sto) : Prop := S.length ≤ S'.length ∧ ∀ i, i < S.length → S'[i]? = S[i]? ∨ ∃ o, S'[i]? = some o ∧ o.lo S.length
open Classical in
noncomputable def gcR (S : Sto) : R D → R D
  | .ok d S' => if gcOk S S' ∧ d.lo S.length then .ok d (S'.take S.length) else .bad
  | .exc C fs S' => if gcOk S S' ∧ kvBelow S.length fs then .exc C fs (S'.take S.length) else .bad
  | .bad => .bad
def Rho.cut (ρ : Rho) (n : Nat) : Rho := ⟨fun m => if m < n then ρ.m m else none, ρ.pv⟩
section
variable {K : PySem.W.Frag} {ρ ρ' : Rho} {S S' : Sto} {H H' : Hp} {n : Nat}
theorem Rho.no_cut {q : Addr} (h : ρ.no q) : (ρ.cut n).no q := by
  refine ⟨fun m z => ?_, h.2⟩
  unfold Rho.cut at z
  simp only at z
  split at z
  · exact h.1 m z
  · cases z
mutual
theorem Rp.cut : ∀ (d : D) (v : V), Rp K ρ H d v → d.lo n → Rp K (ρ.cut n) H d v
  | .non, v, h, _ => h
  | .bl b, v, h, _ => h
  | .int i, v, h, _ => h
  | .str x, v, h, _ => h
  | .tup l, v, h, b => by
    obtain ⟨p, vs, e, h1, h2⟩ := h
    exact ⟨p, vs, e, h1, Rps.cutN l vs h2 b⟩
  | .lst l, v, h, b => by
    obtain ⟨p, vs, e, h1, h2, h3⟩ := h
    exact ⟨p, vs, e, h1, Rho.no_cut h2, Rps.cutN l vs h3 b⟩
  | .wls l, v, h, b => by
    obtain ⟨p, vs, e, h1, h2⟩ := h
    exact ⟨p, vs, e, h1, Rps.cutN l vs h2 b⟩
  | .loc m, v, h, b => by
    obtain ⟨a, e, h1⟩ := h
    have b' : m < n := b
    exact ⟨a, e, by unfold Rho.cut; simp only; rw [if_pos b']; exact h1⟩
  | .gl a, v, h, _ => h
  | .ty n, v, h, _ => h
  | .dic ks l, v, h, b => by
    obtain ⟨p, vs, e, h1, hl, h2, h3⟩ := h
    exact ⟨p, vs, e, h1, hl, Rho.no_cut h2, Rps.cutN l vs h3 b⟩
  | .ftp l, v, h, b => by
    obtain ⟨p, vs, e, h1, h2⟩ := h
    exact ⟨p, vs, e, h1, Rps.cutN l vs h2 b⟩
theorem Rps.cutN : ∀ (ds : List D) (vs : List V), Rps K ρ H ds vs → D.los n ds → Rps K (ρ.cut n) H ds vs
  | [], vs, h, _ => h
  | d :: ds, vs, h, b => by
    obtain ⟨v, r, e, h1, h2⟩ := h
    exact ⟨v, r, e, Rp.cut d v h1 b.1, Rps.cutN ds r h2 b.2⟩
end
theorem KVs.cut {κ : Type} : ∀ (l : List (κ × D)) (vs : List (κ × V)), KVs K ρ H l vs → kvBelow n l → KVs K (ρ.cut n) H l vs
  | [], _, h, _ => h
  | d :: ds, _, h, b => by obtain ⟨v, r, e, h1, h2⟩ := h; exact ⟨v, r, e, Rp.cut _ _ h1 b.1, KVs.cut ds r h2 b.2⟩
theorem OOk.cut {a : Addr} {o : O} (h : OOk K ρ H a o) (b : o.lo n) : OOk K (ρ.cut n) H a o := by
  cases o with
  | lst l => obtain ⟨vs, h1, h2⟩ := h; exact ⟨vs, h1, Rps.cutN l vs h2 b⟩
  | dct l => obtain ⟨vs, h1, h2⟩ := h; exact ⟨vs, h1, KVs.cut l vs h2 b⟩
  | dcT l => obtain ⟨vs, h1, h2⟩ := h; exact ⟨vs, h1, KVs.cut l vs h2 b⟩
  | ins C l => obtain ⟨dx, vs, h1, h2⟩ := h; exact ⟨dx, vs, h1, KVs.cut l vs h2 b⟩
mutual
theorem Rp.isLo (hd : ∀ m a, ρ.m m = some a → m < n) : ∀ (d : D) (v : V), Rp K ρ H d v → d.lo n
  | .non, v, h => trivial
  | .bl b, v, h => trivial
  | .int i, v, h => trivial
  | .str x, v, h => trivial
  | .tup l, v, h => by obtain ⟨p, vs, e, h1, h2⟩ := h; exact Rps.isLo hd l vs h2
  | .lst l, v, h => by obtain ⟨p, vs, e, h1, h2, h3⟩ := h; exact Rps.isLo hd l vs h3
  | .wls l, v, h => by obtain ⟨p, vs, e, h1, h2⟩ := h; exact Rps.isLo hd l vs h2
  | .loc m, v, h => by obtain ⟨a, e, h1⟩ := h; exact hd m a h1
  | .gl a, v, h => trivial
  | .ty n, v, h => trivial
  | .dic ks l, v, h => by obtain ⟨p, vs, e, h1, hl, h2, h3⟩ := h; exact Rps.isLo hd l vs h3
  | .ftp l, v, h => by obtain ⟨p, vs, e, h1, h2⟩ := h; exact Rps.isLo hd l vs h2
theorem Rps.isLo (hd : ∀ m a, ρ.m m = some a → m < n) : ∀ (ds : List D) (vs : List V), Rps K ρ H ds vs → D.los n ds
  | [], vs, h => trivial
  | d :: ds, vs, h => by obtain ⟨v, r, e, h1, h2⟩ := h; exact ⟨Rp.isLo hd d v h1, Rps.isLo hd ds r h2⟩
end
theorem KVs.isLo {κ : Type} (hd : ∀ m a, ρ.m m = some a → m < n) : ∀ (l : List (κ × D)) (vs : List (κ × V)), KVs K ρ H l vs → kvBelow n l
  | [], _, _ => trivial
  | d :: ds, _, h => by obtain ⟨v, r, e, h1, h2⟩ := h; exact ⟨Rp.isLo hd _ _ h1, KVs.isLo hd ds r h2⟩
theorem OOk.isLo (hd : ∀ m a, ρ.m m = some a → m < n) {a : Addr} {o : O} (h : OOk K ρ H a o) : o.lo n := by
  cases o with
  | lst l => obtain ⟨vs, h1, h2⟩ := h; exact Rps.isLo hd l vs h2
  | dct l => obtain ⟨vs, h1, h2⟩ := h; exact KVs.isLo hd l vs h2
  | dcT l => obtain ⟨vs, h1, h2⟩ := h; exact KVs.isLo hd l vs h2
  | ins C l => obtain ⟨dx, vs, h1, h2⟩ := h; exact KVs.isLo hd l vs h2
theorem gc_sok (hS : SOk K ρ S H) (hS' : SOk K ρ' S' H') (g : gcOk S S') : SOk K (ρ'.cut S.length) (S'.take S.length) H' := by
  refine ⟨fun i j a h1 h2 => ?_, fun i a h => ?_, fun i o e => ?_, fun a z => ?_⟩
  · unfold Rho.cut at h1 h2
    simp only at h1 h2
    split at h1
    · split at h2
      · exact hS'.inj i j a h1 h2
      · cases h2
    · cases h1
  · unfold Rho.cut at h
    simp only at h
    split at h
    · rename_i hi
      rw [List.length_take]
      have := g.1
      omega
    · cases h
  · have hi : i < S.length := by
      have := (List.getElem?_eq_some_iff.mp e).1
      rw [List.length_take] at this
      omega
    rw [List.getElem?_take_of_lt hi] at e
    obtain ⟨a, ha, ok⟩ := hS'.obj i o e
    refine ⟨a, by unfold Rho.cut; simp only; rw [if_pos hi]; exact ha, ok.cut ?_⟩
    rcases g.2 i hi with q | ⟨o', q, b⟩
    · rw [e] at q
      obtain ⟨a0, _, ok0⟩ := hS.obj i o q.symm
      exact ok0.isLo hS.dom
    · rw [e] at q; cases q; exact b
  · obtain ⟨h1, h2⟩ := hS'.prv a z
    refine ⟨h1, fun m q => ?_⟩
    unfold Rho.cut at q
    simp only at q
    split at q
    · exact h2 m q
    · cases q
theorem gc_stp (hS : SOk K ρ S H) (st : Stp ρ ρ' H H') : Stp ρ (ρ'.cut S.length) H H' where
  up m a h := by unfold Rho.cut; simp only; rw [if_pos (hS.dom m a h)]; exact st.up m a h
  new m a h := by
    unfold Rho.cut at h
    simp only at h
    split at h
    · exact st.new m a h
    · cases h
  pv := st.pv
  pvu := st.pvu
  keep := st.keep
  live := st.live
theorem gc_post {W : WX} {σ : L2.St} {r : R D} {Q : VK} (hS : SOk K ρ S H) (h : Post K W (Rp K) ρ H σ (gcR S r) Q) : Post K W (Rp K) ρ H σ r Q := by
  cases r with
  | ok d S' =>
    simp only [gcR] at h
    split at h
    · rename_i g
      intro ρ' H' v hS' st rv
      exact h (ρ'.cut S.length) H' v (gc_sok hS hS' g.1) (gc_stp hS st) (rv.cut _ _ g.2)
    · exact h.elim
  | exc C fs S' =>
    simp only [gcR] at h
    split at h
    · rename_i g
      intro ρ' H' d vs hS' st q1 q2 q3
      exact h (ρ'.cut S.length) H' d vs (gc_sok hS hS' g.1) (gc_stp hS st) (Rho.no_cut q1) q2 (KVs.cut _ _ q3 g.2)
    · exact h.elim
  | bad => exact h
end
/-! a list that the call made is handed on as one that stays -/
open Classical in
noncomputable def gcF (S : Sto) (r : R D) : R D := match r with
  | .ok d S' => match d with
    | .loc n => match S'[n]? with
      | some (.lst l) => if S.length ≤ n ∧ gcOk S S' ∧ D.los S.length l then .ok (.lst l) (S'.take S.length) else .bad
      | _ => .bad
    | _ => gcR S r
  | _ => gcR S r
section
variable {K : PySem.W.Frag} {ρ ρ' : Rho} {S S' : Sto} {H H' : Hp} {n : Nat}
theorem gcF_post {W : WX} {σ : L2.St} {r : R D} {Q : VK} (hS : SOk K ρ S H) (h : Post K W (Rp K) ρ H σ (gcF S r) Q) : Post K W (Rp K) ρ H σ r Q := by
  cases r with
  | ok d S' =>
    cases d with
    | loc n =>
      unfold gcF at h
      simp only at h
      split at h
      · rename_i l hn
        split at h
        · rename_i g
          intro ρ' H' v hS' st rv
          obtain ⟨p, rfl, e⟩ := rv
          obtain ⟨a1, e1, vs, hx, rr⟩ := hS'.obj n _ hn
          rw [e] at e1; cases e1
          refine h (ρ'.cut S.length) H' (.ref p) (gc_sok hS hS' g.2.1) (gc_stp hS st) ⟨p, vs, rfl, hx, ⟨fun m z => ?_, fun z => (hS'.prv p z).2 n e⟩, Rps.cutN _ _ rr g.2.2⟩
          unfold Rho.cut at z
          simp only at z
          split at z
          · have := hS'.inj m n p z e
            omega
          · cases z
        · exact h.elim
      · exact h.elim
    | _ => exact gc_post hS h
  | exc C fs S' => exact gc_post hS h
  | bad => exact gc_post hS h
end
section
variable {P : Program} {w : World} {K : PySem.W.Frag} {mg : Str → Option Value} {base : Heap} {x : Str} {st : Stmt} {N ps : List Str} {k : Nat} {m : FM}
theorem FD.gc (F : FD P w K mg base x st ps k m) : FD P w K mg base x st ps k (fun ds S => gcR S (m ds S)) := F.imp fun _ _ _ _ _ _ _ hS h => gc_post hS h
theorem FD.gcF (F : FD P w K mg base x st ps k m) : FD P w K mg base x st ps k (fun ds S => Mi.gcF S (m ds S)) := F.imp fun _ _ _ _ _ _ _ hS h => gcF_post hS h
end
/-! ### calls of defs -/
def mCall (np : Nat) (m : FM) (n : AM) : TM := fun env S => (n env S).bind fun ds S1 => if ds.length = np then m ds S1 else .bad
def gPerm {α : Type} (idx : List Nat) (us ws : List α) : List α := idx.filterMap fun i => (us ++ ws)[i]?
def mCallK (np n1 n2 : Nat) (idx : List Nat) (m : FM) (n nk : AM) : TM := fun env S => (n env S).bind fun ds S1 => (nk env S1).bind fun es S2 => if ds.length = n1 ∧ es.length = n2 then m (gPerm idx ds es) S2 else .bad
theorem gPerm_vals {idx : List Nat} {vs zs : List V} {us ws : List Value} (r1 : Vals vs us) (r2 : Vals zs ws) : Vals (gPerm idx vs zs) (gPerm idx us ws) := by
  have r := Vals.append r1 r2
  unfold gPerm
  induction idx with
  | nil => exact .nil
  | cons i idx ih =>
    rw [List.filterMap_cons, List.filterMap_cons]
    cases e : (vs ++ zs)[i]? with
    | none => rw [r.none_of e]; exact ih
    | some v =>
      obtain ⟨u, e2, rv⟩ := r.get e
      rw [e2]
      exact .cons rv ih
theorem gPerm_rps {K : PySem.W.Frag} {ρ : Rho} {H : Hp} {idx : List Nat} {ds es : List D} {vs zs : List V} (r1 : Rps K ρ H ds vs) (r2 : Rps K ρ H es zs) : Rps K ρ H (gPerm idx ds es) (gPerm idx vs zs) := by
  have r := r1.append r2
  unfold gPerm
  induction idx with
  | nil => rfl
  | cons i idx ih =>
    rw [List.filterMap_cons, List.filterMap_cons]
    cases e : (ds ++ es)[i]? with
    | none =>
      have e3 : (vs ++ zs)[i]? = none := by
        rw [List.getElem?_eq_none_iff] at e ⊢
        rw [← r.length]; exact e
      rw [e3]; exact ih
    | some v =>
      obtain ⟨u, e2, rv⟩ := r.get e
      rw [e2]
      exact ⟨u, _, rfl, rv, ih⟩
theorem funD_kb {K : PySem.W.Frag} {x qual : Str} {params : Arguments} {body : List Stmt} {scope : Scope} {kws : List (Str × V)} {f : Addr} {fd : FuncData} {ps : List Str} (F : FunD K x qual params body scope [] kws f fd) (n : Nat) (ks : List Str) (idx : List Nat)
    (h : ∀ (kV doc pm : Value) (an : Option Addr) (cdv ct : Value) (us ws : List Value), us.length = n → ws.length = ks.length → bindArgs (PySem.W.fnOf x qual params body scope .none kV doc pm an cdv ct) ⟨us, ks.zip ws⟩ = pure (ps.zip (gPerm idx us ws))) : KBn K fd ps n ks (gPerm idx) (gPerm idx) := by
  obtain ⟨oc, od, dV, kV, doc, pm, an, cdv, ct, osl, rfl, lk, hcd, hD, hK⟩ := F.ex
  rcases hD with ⟨_, rfl⟩ | ⟨e, _⟩
  · exact ⟨fun s us ws _ l1 l2 => .of_eq (h kV doc pm an cdv ct us ws l1 l2), fun r1 r2 => gPerm_vals r1 r2⟩
  · exact absurd rfl e
structure DK (X : Cx) (W : WX) (kws : List Keyword) (m : AM) : Prop where
  p : PK X kws (tA X.K W m)
section
variable {X : Cx} {W : WX} {x : Str} {p pos kpos : Pos} {e : Expr} {es : List Expr} {kws : List Keyword} {n nk : AM} {me : TM} {m : FM} {st : Stmt} {ps ks : List Str} {k : Nat} {nm : Option Str}
theorem PK.imp {e : List Keyword} {t t' : TA} (h : PK X e t) (i : ∀ σ H Q, t' σ H Q → t σ H Q) : PK X e t' := ⟨fun pos pins s σ H Q I q => h.run pos pins s σ H Q I (i σ H Q q)⟩
theorem k_nil : DK X W [] aNil := ⟨PK.imp pk_nil fun σ H Q ⟨ρ, S, env, hS, hE, h⟩ => h ρ H [] hS .refl rfl⟩
theorem k_cons (h : DE X W e me) (hr : DK X W kws nk) : DK X W (⟨nm, e, kpos⟩ :: kws) (aCons me nk) :=
  ⟨PK.imp (pk_cons h.p hr.p) fun σ H Q ⟨ρ, S, env, hS, hE, h⟩ => by
    refine Post.bindK hS hE h fun x H1 ρ1 S1 d1 hS1 hE1 st1 r1 h1 => ?_
    refine Post.bindK hS1 hE1 h1 fun y H2 ρ2 S2 l hS2 hE2 st2 r2 h2 => ?_
    exact h2 ρ2 H2 (x :: y) hS2 .refl ⟨x, y, rfl, r1.step hS1 st2, r2⟩⟩
/-- how the parameters are bound by position -/
def BindOk (x : Str) (st : Stmt) (ps : List Str) : Prop := ∀ (kV doc pm : Value) (an : Option Addr) (cdv ct : Value) (us : List Value), us.length = ps.length → bindArgs (PySem.W.fnOf x x (defArgs st) (defBody st) (defScope st) .none kV doc pm an cdv ct) ⟨us, []⟩ = pure (ps.zip us)
def BindKOk (x : Str) (st : Stmt) (ps : List Str) (n : Nat) (ks : List Str) (idx : List Nat) : Prop := ∀ (kV doc pm : Value) (an : Option Addr) (cdv ct : Value) (us ws : List Value), us.length = n → ws.length = ks.length →
  bindArgs (PySem.W.fnOf x x (defArgs st) (defBody st) (defScope st) .none kV doc pm an cdv ct) ⟨us, ks.zip ws⟩ = pure (ps.zip (gPerm idx us ws))
/-- the end of a call's reading -/
theorem call_end {K : PySem.W.Frag} {ρ : Rho} {S : Sto} {H : Hp} {σ : L2.St} {ds : List D} {vs : List V} {Q : VK} {np : Nat} (hS : SOk K ρ S H) (r : Rps K ρ H ds vs) (hl : ds.length = np) (h : Post K W (Rp K) ρ H σ (m ds S) Q) : spD K np m vs H Q (WE W σ) := by
  refine ⟨ρ, S, ds, hl, hS, r, ?_⟩
  revert h
  generalize m ds S = q
  intro h
  cases q with
  | ok d S1 => exact h
  | exc C fs S1 => exact h
  | bad => exact h
theorem d_call (F : FD X.prog X.w X.K X.mg X.base x st ps k m) (hb : BindOk x st ps) (hr : RmG k X.A) (hg : Gl X x) (tk : Takes X W) (ha : DA X W (e :: es) n) (hdb : (x == ("__debug__" : Str)) = false := by decide)
    (he : starEach (e :: es) X.env = (false, eval e X.env) :: starEach es X.env := by rfl) (hpl : (backTo pos (starEach es X.env)).any (·.1) = false := by rfl) :
    DE X W (.Call (.Name x p) (e :: es) [] pos) (mCall ps.length m n) := by
  obtain ⟨f, fd, G, F⟩ := F.ex
  refine ⟨PE.imp (pe_callG F hr.r hr.no hg G.gl G.fn.kp (G.fn.bindsN hb) (E := WE W) (fun σ => passAt tk σ) ha.p hdb he hpl) fun σ H Q ⟨ρ, S, env, hS, hE, h⟩ => ?_⟩
  refine Post.bindK hS hE h fun vs H1 ρ1 S1 ds hS1 hE1 st1 r1 h1 => ?_
  split at h1
  · rename_i hl
    exact call_end hS1 r1 hl h1
  · exact h1.elim
theorem d_call0 (F : FD X.prog X.w X.K X.mg X.base x st [] k m) (hb : BindOk x st []) (hr : RmG k X.A) (hg : Gl X x) (tk : Takes X W) (hdb : (x == ("__debug__" : Str)) = false := by decide) :
    DE X W (.Call (.Name x p) [] [] pos) (mCall 0 m aNil) := by
  obtain ⟨f, fd, G, F⟩ := F.ex
  refine ⟨⟨fun pins s σ H Q I h => ?_⟩⟩
  refine wpAny_Call_Name_kw (ld_glob I hg G.gl ?_ hdb)
  refine PySem.W.callWith_K0 I.kIn G.fn.kp ?_
  obtain ⟨ρ, S, env, hS, hE, h⟩ := h
  exact run_G (us := []) F hr.r hr.no (G.fn.bindsN hb) (passAt tk σ) I .nil (call_end (ds := []) hS rfl rfl h)
theorem d_callK {n1 : Nat} {idx : List Nat} (F : FD X.prog X.w X.K X.mg X.base x st ps k m) (hb : BindKOk x st ps n1 ks idx) (hi : idx.length = ps.length) (hi2 : ∀ i ∈ idx, i < n1 + ks.length) (hr : RmG k X.A) (hg : Gl X x) (tk : Takes X W) (ha : DA X W (e :: es) n) (hk : DK X W kws nk)
    (hall : (backToKw pos (keywordEach kws X.env)).all (·.1.isSome) = true := by rfl) (hks : (backToKw pos (keywordEach kws X.env)).filterMap (·.1) = ks := by rfl)
    (hdb : (x == ("__debug__" : Str)) = false := by decide) (he : starEach (e :: es) X.env = (false, eval e X.env) :: starEach es X.env := by rfl)
    (hpl : ((backTo pos (starEach (e :: es) X.env)).any (·.1) || (backToKw pos (keywordEach kws X.env)).any (·.1.isNone)) = false := by rfl) :
    DE X W (.Call (.Name x p) (e :: es) kws pos) (mCallK ps.length n1 ks.length idx m n nk) := by
  obtain ⟨f, fd, G, F⟩ := F.ex
  refine ⟨⟨fun pins s σ H Q I h => ?_⟩⟩
  refine wpAny_Call_Name_kw (ld_glob I hg G.gl ?_ hdb)
  obtain ⟨ρ, S, env, hS, hE, h⟩ := h
  have hq : tA X.K W n σ H fun vs H1 => tA X.K W nk σ H1 fun zs H2 => vs.length = n1 ∧ zs.length = ks.length ∧ spD X.K ps.length m (gPerm idx vs zs) H2 Q (WE W σ) := by
    refine Post.bindK hS hE h fun vs H1 ρ1 S1 ds hS1 hE1 st1 r1 h1 => ?_
    refine Post.bindK hS1 hE1 h1 fun zs H2 ρ2 S2 es' hS2 hE2 st2 r2 h2 => ?_
    split at h2
    · rename_i hl
      refine ⟨by rw [← r1.length]; exact hl.1, by rw [← r2.length]; exact hl.2, call_end hS2 (gPerm_rps (Rps.step hS1 st2 _ _ r1) r2) ?_ h2⟩
      unfold gPerm
      rw [← hi]
      have all : ∀ i ∈ idx, ∃ d, (ds ++ es')[i]? = some d := fun i hmem => by
        have := hi2 i hmem
        have hlt : i < (ds ++ es').length := by rw [List.length_append, hl.1, hl.2]; exact this
        exact ⟨_, List.getElem?_eq_getElem hlt⟩
      clear h h1 h2 hi hi2 hb
      induction idx with
      | nil => rfl
      | cons i idx ih =>
        obtain ⟨d, hd⟩ := all i List.mem_cons_self
        rw [List.filterMap_cons, hd, List.length_cons, List.length_cons, ih fun j hj => all j (List.mem_cons_of_mem _ hj)]
    · exact h2.elim
  refine PySem.W.callWith_KW (h₀ := X.base) I.ok.mod.kin G.fn.kp hall (thn (ha.p.run pos pins s σ H _ I hq) fun us s1 ⟨vs, H1, I1, r, q⟩ => ?_) hpl he
  refine thn (hk.p.run pos pins s1 σ H1 _ I1 q) fun ws s2 ⟨zs, H2, I2, rz, l1, l2, q2⟩ => ⟨I2.kIn, ?_⟩
  rw [hks]
  exact run_Gk F hr.r hr.no (funD_kb G.fn n1 ks idx hb) (passAt tk σ) I2 r rz l1 l2 q2
theorem d_callK0 {idx : List Nat} (F : FD X.prog X.w X.K X.mg X.base x st ps k m) (hb : BindKOk x st ps 0 ks idx) (hi : idx.length = ps.length) (hi2 : ∀ i ∈ idx, i < 0 + ks.length) (hr : RmG k X.A) (hg : Gl X x) (tk : Takes X W) (hk : DK X W kws nk)
    (hall : (backToKw pos (keywordEach kws X.env)).all (·.1.isSome) = true := by rfl) (hks : (backToKw pos (keywordEach kws X.env)).filterMap (·.1) = ks := by rfl)
    (hdb : (x == ("__debug__" : Str)) = false := by decide)
    (hpl : ((backTo pos (starEach [] X.env)).any (·.1) || (backToKw pos (keywordEach kws X.env)).any (·.1.isNone)) = false := by rfl) :
    DE X W (.Call (.Name x p) [] kws pos) (mCallK ps.length 0 ks.length idx m aNil nk) := by
  obtain ⟨f, fd, G, F⟩ := F.ex
  refine ⟨⟨fun pins s σ H Q I h => ?_⟩⟩
  refine wpAny_Call_Name_kw (ld_glob I hg G.gl ?_ hdb)
  obtain ⟨ρ, S, env, hS, hE, h⟩ := h
  have hq : tA X.K W nk σ H fun zs H2 => zs.length = ks.length ∧ spD X.K ps.length m (gPerm idx [] zs) H2 Q (WE W σ) := by
    refine Post.bindK hS hE h fun zs H2 ρ2 S2 es' hS2 hE2 st2 r2 h2 => ?_
    split at h2
    · rename_i hl
      refine ⟨by rw [← r2.length]; exact hl.2, call_end hS2 (gPerm_rps (ds := []) (vs := []) rfl r2) ?_ h2⟩
      unfold gPerm
      rw [← hi]
      have all : ∀ i ∈ idx, ∃ d, (([] : List D) ++ es')[i]? = some d := fun i hmem => by
        have := hi2 i hmem
        have hlt : i < (([] : List D) ++ es').length := by rw [List.length_append, hl.2]; exact this
        exact ⟨_, List.getElem?_eq_getElem hlt⟩
      clear h h2 hi hi2 hb
      induction idx with
      | nil => rfl
      | cons i idx ih =>
        obtain ⟨d, hd⟩ := all i List.mem_cons_self
        rw [List.filterMap_cons, hd, List.length_cons, List.length_cons, ih fun j hj => all j (List.mem_cons_of_mem _ hj)]
    · exact h2.elim
  refine PySem.W.callWith_KW0 (h₀ := X.base) I.ok.mod.kin G.fn.kp hall ?_ hpl
  refine thn (hk.p.run pos pins s σ H _ I hq) fun ws s2 ⟨zs, H2, I2, rz, l2, q2⟩ => ⟨I2.kIn, ?_⟩
  rw [hks]
  exact run_Gk (us := []) (vs := []) F hr.r hr.no (funD_kb G.fn 0 ks idx hb) (passAt tk σ) I2 .nil rz rfl l2 q2
/-! names of the module and of Python -/
theorem d_ty {v : String} (hg : Gl X x) (hm : X.mg x = none) (hv : bootBuiltins x = some (.type v)) (hn : x ≠ "__name__" := by decide) (hdb : (x == ("__debug__" : Str)) = false := by decide) : DE X W (.Name x pos) (mC (.ty v)) :=
  ⟨PE.imp (pe_bltn (v := .ty v) hg hm hv rfl hn hdb) fun σ H Q ⟨ρ, S, env, hS, hE, h⟩ => h ρ H (.ty v) hS .refl rfl⟩
theorem d_glob {d : D} {v : V} {u : Value} (hg : Gl X x) (hm : X.mg x = some u) (r : RelV v u) (hr : ∀ ρ H, Rp X.K ρ H d v) (hdb : (x == ("__debug__" : Str)) = false := by decide) : DE X W (.Name x pos) (mC d) :=
  ⟨PE.imp (pe_glob hg hm r hdb) fun σ H Q ⟨ρ, S, env, hS, hE, h⟩ => h ρ H v hS .refl (hr ρ H)⟩
theorem d_gint {i : Int} (hg : Gl X x) (hm : ∃ t, X.mg x = some (.int i t)) (hdb : (x == ("__debug__" : Str)) = false := by decide) : DE X W (.Name x pos) (mC (.int i)) := by
  obtain ⟨t, hm⟩ := hm
  exact d_glob (v := .int i) hg hm ⟨t, rfl⟩ (fun _ _ => rfl) hdb
theorem d_gstr {z : Str} (hg : Gl X x) (hm : ∃ t, X.mg x = some (.str z t)) (hdb : (x == ("__debug__" : Str)) = false := by decide) : DE X W (.Name x pos) (mC (.str z)) := by
  obtain ⟨t, hm⟩ := hm
  exact d_glob (v := .str z) hg hm ⟨t, rfl⟩ (fun _ _ => rfl) hdb
end
/-! a[::-1] of a list -/
def revD (S : Sto) (d : D) : Option (List D) := (lstD S d).map List.reverse
def mRev (m : TM) : TM := fun env S => (m env S).bind fun d S1 => match revD S1 d with
  | some l => .ok (.lst l) S1
  | none => .bad
def mRevN (m : TM) : TM := fun env S => (m env S).bind fun d S1 => match revD S1 d with
  | some l => R.new (.lst l) S1
  | none => .bad
theorem Rps.reverse {K : PySem.W.Frag} {ρ : Rho} {H : Hp} : ∀ {l : List D} {vs : List V}, Rps K ρ H l vs → Rps K ρ H l.reverse vs.reverse
  | [], _, h => by cases h; rfl
  | d :: ds, _, h => by
    obtain ⟨v, r, rfl, h1, h2⟩ := h
    rw [List.reverse_cons, List.reverse_cons]
    exact (Rps.reverse h2).append (es := [d]) (ws := [v]) ⟨v, [], rfl, h1, rfl⟩
section
variable {X : Cx} {W : WX} {e : Expr} {m : TM} {p1 p2 p3 pos : Pos} {k : Nat}
theorem d_rev (he : DE X W e m) : DE X W (.Subscript e (.Slice none none (some (.UnaryOp .USub (.Constant (.int 1) k p1) p2)) p3) pos) (mRev m) :=
  ⟨PE.imp (pe_revL he.p) fun σ H Q ⟨ρ, S, env, hS, hE, h⟩ => Post.bindK hS hE h fun v H1 ρ1 S1 d hS1 hE1 st1 r1 h1 => by
    unfold revD at h1
    cases hl : lstD S1 d with
    | none => rw [hl] at h1; exact h1.elim
    | some l =>
      rw [hl] at h1
      obtain ⟨p, vs, e1, h2, h3⟩ := der_lst hS1 r1 hl
      subst e1
      exact ⟨p, vs, rfl, h2, fun q hq => new_lst hS1 h3.reverse hq h1⟩⟩
theorem d_revN (he : DE X W e m) : DE X W (.Subscript e (.Slice none none (some (.UnaryOp .USub (.Constant (.int 1) k p1) p2)) p3) pos) (mRevN m) :=
  ⟨PE.imp (pe_revL he.p) fun σ H Q ⟨ρ, S, env, hS, hE, h⟩ => Post.bindK hS hE h fun v H1 ρ1 S1 d hS1 hE1 st1 r1 h1 => by
    unfold revD at h1
    cases hl : lstD S1 d with
    | none => rw [hl] at h1; exact h1.elim
    | some l =>
      rw [hl] at h1
      obtain ⟨p, vs, e1, h2, h3⟩ := der_lst hS1 r1 hl
      subst e1
      exact ⟨p, vs, rfl, h2, fun q hq => new_loc hS1 h3.reverse hq h1⟩⟩
end
end Mi

namespace Mi
open PySem PySem.Spec PyProof.Rows L2
/-! ### dict displays -/
section
variable {K : PySem.W.Frag} {ρ ρ' : Rho} {S S' : Sto} {H H' : Hp} {p : Addr} {env : En} {σ : L2.St}
theorem OOk.pupd {a : Addr} {ho : HO} {o : O} (hne : a ≠ p) (hp : ∀ u, H p = some u → Mk u) (pv : ρ.pv p) (ok : OOk K ρ H a o) : OOk K ρ (upd H p ho) a o := by
  cases o with
  | lst l => obtain ⟨vs, h1, h2⟩ := ok; exact ⟨vs, by rw [upd_ne hne]; exact h1, Rps.pupd hp pv l vs h2⟩
  | dct l => obtain ⟨vs, h1, h2⟩ := ok; exact ⟨vs, by rw [upd_ne hne]; exact h1, KVs.pupd hp pv l vs h2⟩
  | dcT l => obtain ⟨vs, h1, h2⟩ := ok; exact ⟨vs, by rw [upd_ne hne]; exact h1, KVs.pupd hp pv l vs h2⟩
  | ins C l => obtain ⟨dx, vs, h1, h2⟩ := ok; exact ⟨dx, vs, by rw [upd_ne hne]; exact h1, KVs.pupd hp pv l vs h2⟩
theorem SOk.pupdO {ho : HO} (hm : Mk ho) (hS : SOk K ρ S H) (pv : ρ.pv p) : SOk K ρ S (upd H p ho) := by
  obtain ⟨⟨u, h1, h2⟩, h3⟩ := hS.prv p pv
  have hp : ∀ u, H p = some u → Mk u := fun u' h => by rw [h1] at h; cases h; exact h2
  refine ⟨hS.inj, hS.dom, fun n o e => ?_, fun a z => ?_⟩
  · obtain ⟨a, ha, ok⟩ := hS.obj n o e
    have hne : a ≠ p := fun z => h3 n (by rw [← z]; exact ha)
    exact ⟨a, ha, ok.pupd hne hp pv⟩
  · by_cases hap : a = p
    · subst hap; exact ⟨⟨_, upd_same, hm⟩, h3⟩
    · obtain ⟨⟨u', h4, h5⟩, h6⟩ := hS.prv a z
      exact ⟨⟨u', by rw [upd_ne hap]; exact h4, h5⟩, h6⟩
theorem SOk.hideO {ho : HO} (hm : Mk ho) (hS : SOk K ρ S H) (hp : H p = none) : SOk K (ρ.hide p) S (upd H p ho) := by
  have b : ∀ n, ρ.m n ≠ some p := (hS.noN hp).1
  refine ⟨hS.inj, hS.dom, fun n o e => ?_, fun a z => ?_⟩
  · obtain ⟨a, ha, ok⟩ := hS.obj n o e
    have hne : a ≠ p := fun z => b n (by rw [← z]; exact ha)
    have ok1 : OOk K (ρ.hide p) H a o := OOk.re (ρ := ρ) (ρ' := ρ.hide p) (fun _ _ z => z) (hide_no hp) ok
    exact ⟨a, ha, ok1.pupd hne (hide_mk hp) (.inr rfl)⟩
  · rcases z with z | z
    · obtain ⟨⟨u', h4, h5⟩, h6⟩ := hS.prv a z
      exact ⟨⟨u', by rw [upd_ne (ne_of_none h4 hp)]; exact h4, h5⟩, h6⟩
    · subst z; exact ⟨⟨_, upd_same, hm⟩, b⟩
theorem EOk.hideO {ho : HO} (hE : EOk K ρ H env σ) (hp : H p = none) : EOk K (ρ.hide p) (upd H p ho) env σ :=
  (EOk.re (ρ := ρ) (ρ' := ρ.hide p) (fun _ _ z => z) (hide_no hp) hE).pupd (hide_mk hp) (.inr rfl)
theorem Stp.putO {ρ0 : Rho} {H0 : Hp} {ho : HO} (st : Stp ρ0 ρ H0 H) (hp : H0 p = none) : Stp ρ0 ρ H0 (upd H p ho) where
  up := st.up
  new := st.new
  pv := st.pv
  pvu := st.pvu
  keep a o h hn := by rw [upd_ne (ne_of_none h hp)]; exact st.keep a o h hn
  live a h := st.live a (upd_live h)
theorem hidden_obj {o : O} (hS : SOk K (ρ.hide p) S H) (ok : OOk K (ρ.hide p) H p o) (hv : ¬ ρ.pv p) : SOk K (ρ.put S.length p) (S ++ [o]) H ∧ Rp K (ρ.put S.length p) H (.loc S.length) (.ref p) := by
  have hm : ∀ n a, (ρ.hide p).m n = some a → (ρ.put S.length p).m n = some a := fun n a h => by
    unfold Rho.put
    simp only
    rw [if_neg (Nat.ne_of_lt (hS.dom n a h))]
    exact h
  have hn : ∀ (q : Addr) (u : HO), H q = some u → (ρ.hide p).no q → (ρ.put S.length p).no q := fun q vs _ h => by
    obtain ⟨h1, h2⟩ := Rho.no_hide h
    refine ⟨fun n z => ?_, h1.2⟩
    unfold Rho.put at z
    simp only at z
    split at z
    · cases z; exact h2 rfl
    · exact h1.1 n z
  have at_ : (ρ.put S.length p).m S.length = some p := by unfold Rho.put; simp
  have np := (hS.prv p (.inr rfl)).2
  refine ⟨⟨fun n m a h1 h2 => ?_, fun n a h => ?_, fun n o' e' => ?_, fun a h => ?_⟩, p, rfl, at_⟩
  · unfold Rho.put at h1 h2
    simp only at h1 h2
    split at h1 <;> split at h2
    · omega
    · cases h1; exact absurd h2 (np m)
    · cases h2; exact absurd h1 (np n)
    · exact hS.inj n m a h1 h2
  · unfold Rho.put at h
    simp only at h
    rw [List.length_append]
    split at h
    · simp; omega
    · have := hS.dom n a h; simp; omega
  · by_cases hlt : n < S.length
    · rw [List.getElem?_append_left hlt] at e'
      obtain ⟨a, ha, ok'⟩ := hS.obj n o' e'
      exact ⟨a, hm n a ha, ok'.re hm hn⟩
    · have hn' : n = S.length := by
        have := (List.getElem?_eq_some_iff.mp e').1
        simp at this; omega
      subst hn'
      simp at e'
      subst e'
      exact ⟨p, at_, ok.re hm hn⟩
  · obtain ⟨h1, h2⟩ := hS.prv a (.inl h)
    refine ⟨h1, fun n z => ?_⟩
    unfold Rho.put at z
    simp only at z
    split at z
    · cases z; exact hv h
    · exact h2 n z
end
def Prs (K : PySem.W.Frag) (ρ : Rho) (H : Hp) : List (D × D) → List (V × V) → Prop
  | [], vs => vs = []
  | d :: ds, vs => ∃ x y r, vs = (x, y) :: r ∧ Rp K ρ H d.1 x ∧ Rp K ρ H d.2 y ∧ Prs K ρ H ds r
abbrev PM := En → Sto → R (List (D × D))
structure DPs (X : Cx) (W : WX) (pos : Pos) (keys : List (Option Expr)) (values : List Expr) (n : PM) : Prop where
  ex : ∃ trs, PPs X pos keys values trs ∧ ∀ σ H Q, tG X.K W (Prs X.K) n σ H Q → tPairs trs σ H Q
def pNil : PM := fun _ S => .ok [] S
def pCons (mk mv : TM) (n : PM) : PM := fun env S => (mk env S).bind fun a S1 => (mv env S1).bind fun b S2 => (n env S2).bind fun l S3 => .ok ((a, b) :: l) S3
def kvsD : List (D × D) → Option (List (Key × D))
  | [] => some []
  | d :: ds => match keyD d.1, kvsD ds with
    | some k, some r => some ((k, d.2) :: r)
    | _, _ => none
def mergeD (l more : List (Key × D)) : List (Key × D) := more.foldl (fun acc kv => putD acc kv.1 kv.2) l
def mDict (n : PM) : TM := fun env S => (n env S).bind fun ps S1 => match kvsD ps with
  | some kvs => if kvs.length ≤ 15 then R.new (.dct (mergeD [] kvs)) S1 else .bad
  | none => .bad
section
variable {X : Cx} {W : WX} {pos : Pos} {k v : Expr} {ks : List (Option Expr)} {vs : List Expr} {mk mv : TM} {n : PM}
theorem p_nil : DPs X W pos [] [] pNil := ⟨[], pps_nil, fun σ H Q ⟨ρ, S, env, hS, hE, h⟩ => h ρ H [] hS .refl rfl⟩
theorem p_cons (hk : DE X W k mk) (hv : DE X W v mv) (hr : DPs X W pos ks vs n) : DPs X W pos (some k :: ks) (v :: vs) (pCons mk mv n) := by
  obtain ⟨trs, h1, h2⟩ := hr.ex
  refine ⟨_, pps_cons hk.p hv.p h1, fun σ H Q ⟨ρ, S, env, hS, hE, h⟩ => ?_⟩
  refine Post.bindK hS hE h fun x H1 ρ1 S1 d1 hS1 hE1 st1 r1 h1 => ?_
  refine Post.bindK hS1 hE1 h1 fun y H2 ρ2 S2 d2 hS2 hE2 st2 r2 h2' => ?_
  refine h2 σ H2 _ (Post.bindK hS2 hE2 h2' fun zs H3 ρ3 S3 l hS3 hE3 st3 r3 h3 => ?_)
  exact h3 ρ3 H3 _ hS3 .refl ⟨x, y, zs, rfl, Rp.step hS1 (st2.trans st3) _ _ r1, r2.step hS2 st3, r3⟩
theorem kvsD_ok {K : PySem.W.Frag} {ρ : Rho} {H : Hp} : ∀ {ps : List (D × D)} {vs : List (V × V)} {kvs : List (Key × D)}, Prs K ρ H ps vs → kvsD ps = some kvs → ∃ ws : List (Key × V), vs = ws.map (fun kv => (kV kv.1, kv.2)) ∧ KVs K ρ H kvs ws
  | [], vs, kvs, h, e => by cases h; cases e; exact ⟨[], rfl, rfl⟩
  | d :: ds, vs, kvs, h, e => by
    obtain ⟨x, y, r, rfl, h1, h2, h3⟩ := h
    unfold kvsD at e
    split at e
    · rename_i k r' ek er
      cases e
      obtain ⟨ws, rfl, q⟩ := kvsD_ok h3 er
      have := Rp.key h1 ek
      subst this
      exact ⟨(k, y) :: ws, rfl, y, ws, rfl, h2, q⟩
    · cases e
theorem KVs.merge {K : PySem.W.Frag} {ρ : Rho} {H : Hp} : ∀ {more : List (Key × D)} {ws : List (Key × V)} {l : List (Key × D)} {vs : List (Key × V)}, KVs K ρ H more ws → KVs K ρ H l vs → KVs K ρ H (mergeD l more) (mergeK vs ws)
  | [], _, _, _, h, h0 => by cases h; exact h0
  | d :: ds, _, _, _, h, h0 => by
    obtain ⟨v, r, rfl, h1, h2⟩ := h
    show KVs K ρ H (mergeD (putD _ d.1 d.2) ds) (mergeK (putK _ d.1 v) r)
    exact KVs.merge (more := ds) h2 (h0.put h1)
theorem d_dict (h : DPs X W pos ks vs n) (hall : ks.all (·.isSome) = true := by rfl) (hl : ks.length = vs.length := by rfl) (h0 : ks ≠ [] := by exact List.cons_ne_nil _ _) (h15 : ks.length ≤ 15 := by decide) : DE X W (.Dict ks vs pos) (mDict n) := by
  obtain ⟨trs, h1, h2⟩ := h.ex
  refine ⟨PE.imp (pe_disp h1 hall hl h0 h15) fun σ H Q ⟨ρ, S, env, hS, hE, h⟩ p hp => h2 _ _ _ ?_⟩
  have hv : ¬ ρ.pv p := (hS.noN hp).2
  have st0 : Stp ρ (ρ.hide p) H (upd H p (.dK [])) := Stp.hide (Stp.alloc hp) hp
  have hS0 : SOk X.K (ρ.hide p) S (upd H p (.dK [])) := hS.hideO trivial hp
  refine ⟨ρ.hide p, S, env, hS0, hE.hideO hp, ?_⟩
  unfold mDict at h
  revert h
  generalize n env S = r
  intro h
  cases r with
  | bad => exact h
  | exc C fs S1 => exact fun ρ4 H4 d xs q1 q2 q3 q4 q5 => h ρ4 H4 d xs q1 (st0.trans q2) q3 q4 q5
  | ok ps S1 =>
    intro ρ4 H4 us hS4 st4 r4
    have e4 : H4 p = some (.dK []) := st4.keep p _ upd_same (hS0.prv p (.inr rfl)).2
    obtain ⟨ρ5, rfl, hv5, st5⟩ := st4.unhide hv
    refine ⟨e4, ?_⟩
    rw [R.bind_ok] at h
    cases ek : kvsD ps with
    | none => rw [ek] at h; exact h.elim
    | some kvs =>
      rw [ek] at h
      simp only at h
      split at h
      · rename_i hlen
        obtain ⟨ws, rfl, rw_⟩ := kvsD_ok r4 ek
        refine ⟨ws, rfl, by rw [← rw_.length]; exact hlen, ?_⟩
        have mkp : ∀ u, H4 p = some u → Mk u := fun u hu => by rw [e4] at hu; cases hu; trivial
        have pv5 : (ρ5.hide p).pv p := .inr rfl
        have hS6 : SOk X.K (ρ5.hide p) S1 (upd H4 p (.dK (mergeK [] ws))) := SOk.pupdO trivial hS4 pv5
        have ok6 : OOk X.K (ρ5.hide p) (upd H4 p (.dK (mergeK [] ws))) p (.dct (mergeD [] kvs)) := ⟨_, upd_same, KVs.pupd mkp pv5 _ _ (KVs.merge rw_ rfl)⟩
        obtain ⟨g1, g2⟩ := hidden_obj hS6 ok6 hv5
        have stA : Stp ρ ρ5 H (upd H4 p (.dK (mergeK [] ws))) := ((Stp.alloc hp).trans st5).putO hp
        exact h _ _ _ g1 (hid_st stA hp fun m a q => Nat.ne_of_lt (hS6.dom m a (stA.up m a q))) g2
      · exact h.elim
end
end Mi

namespace Mi
open PySem PySem.Spec PyProof.Rows L2
theorem bt_len : bootBuiltins "len" = some (.builtin "len") := by decide +kernel
theorem bt_abs : bootBuiltins "abs" = some (.builtin "abs") := by decide +kernel
theorem bt_max : bootBuiltins "max" = some (.builtin "max") := by decide +kernel
theorem bt_min : bootBuiltins "min" = some (.builtin "min") := by decide +kernel
theorem bt_all : bootBuiltins "all" = some (.builtin "all") := by decide +kernel
theorem bt_any : bootBuiltins "any" = some (.builtin "any") := by decide +kernel
theorem bt_sum : bootBuiltins "sum" = some (.builtin "sum") := by decide +kernel
theorem bt_isinstance : bootBuiltins "isinstance" = some (.builtin "isinstance") := by decide +kernel
theorem bt_int : bootBuiltins "int" = some (.type "int") := by decide +kernel
theorem bt_bool : bootBuiltins "bool" = some (.type "bool") := by decide +kernel
theorem bt_str : bootBuiltins "str" = some (.type "str") := by decide +kernel
theorem bt_list : bootBuiltins "list" = some (.type "list") := by decide +kernel
theorem bt_tuple : bootBuiltins "tuple" = some (.type "tuple") := by decide +kernel
theorem bt_dict : bootBuiltins "dict" = some (.type "dict") := by decide +kernel
theorem takesW0 {X : Cx} : Takes X W0 := fun _ _ ⟨_, _, _, _, _, _, _, _, _, _, _, _, _, _, _, _, w⟩ => w.elim
theorem b_bad {X : Cx} {W : WX} {sts : List Stmt} : DB X W sts sBad := ⟨PSs.imp pss_never fun T σ H ⟨ρ, S, env, hS, hE, h⟩ => h⟩
/-! ### the end: a law -/
def spNo (sp : Sp) : Sp := fun vs H Q _ => sp vs H Q fun _ _ _ => False
theorem no_exc {P : Program} {w : World} {K : PySem.W.Frag} {mg : Str → Option Value} {base : Heap} {k : Nat} {f : Addr} {fd : FuncData} {ps : List Str} {sp : Sp} (F : FnG P w K mg base (L2.CX P w) k f fd ps sp) : FnG P w K mg base CX0 k f fd ps (spNo sp) :=
  ⟨fun vs H Q E q => F.len _ _ _ _ q, fun hr no he hb hv hs => codeAny_mono (F.go hr no he hb hv hs) fun r s' h => by
    cases r with
    | ok fl =>
      cases fl with
      | ret u => exact h
      | _ => exact h
    | error e =>
      obtain ⟨_, _, _, _, _, _, _, _, _, _, _, _, q⟩ := h
      exact q⟩
def rho0 : Rho := ⟨fun _ => none, fun _ => False⟩
theorem sok0 {K : PySem.W.Frag} {H : Hp} : SOk K rho0 [] H := ⟨fun n m a h _ => (by cases h), fun n a h => (by cases h), fun n o h => (by simp at h), fun a h => False.elim h⟩
theorem rps_ints {K : PySem.W.Frag} {H : Hp} : ∀ ns : List Int, Rps K rho0 H (ns.map D.int) (ns.map V.int)
  | [] => rfl
  | n :: ns => ⟨_, _, rfl, rfl, rps_ints ns⟩
theorem law_sp {K : PySem.W.Frag} {m : FM} (hm : ∀ ns : List Int, ns.length ≤ 63 → ∀ d, (d = D.lst (ns.map D.int) ∨ d = D.wls (ns.map D.int)) → ∃ S, m [d] [] = .ok (.bl true) S)
    (H : Hp) (a : Addr) (ns : List Int) (hl : ns.length ≤ 63) (hS : SqL K H a (ns.map V.int)) : spNo (spD K 1 m) [.ref a] H (fun v _ => v = .bl true) fun _ _ _ => False := by
  have key : ∀ d, (d = D.lst (ns.map D.int) ∨ d = D.wls (ns.map D.int)) → Rp K rho0 H d (.ref a) → spNo (spD K 1 m) [.ref a] H (fun v _ => v = .bl true) fun _ _ _ => False := by
    intro d hd r
    obtain ⟨S, e⟩ := hm ns hl d hd
    refine ⟨rho0, [], [d], rfl, sok0, ⟨_, _, rfl, r, rfl⟩, ?_⟩
    rw [e]
    exact fun ρ' H' v _ _ q => q
  rcases hS with (h | h) | h
  · exact key _ (.inl rfl) ⟨a, _, rfl, h, ⟨fun n z => (by cases z), fun z => z⟩, rps_ints ns⟩
  · exact key _ (.inr rfl) ⟨a, _, rfl, .inl h, rps_ints ns⟩
  · exact key _ (.inr rfl) ⟨a, _, rfl, .inr h, rps_ints ns⟩
theorem fdEq {K : PySem.W.Frag} {x qual : Str} {params : Arguments} {body : List Stmt} {scope : Scope} {dvs : List V} {kws : List (Str × V)} {f : Addr} {fd fd' : FuncData} (F : FunD K x qual params body scope dvs kws f fd) (F' : FunD K x qual params body scope dvs kws f fd') : fd = fd' := by
  obtain ⟨_, _, _, _, _, _, _, _, _, _, _, l1, _⟩ := F.ex
  obtain ⟨_, _, _, _, _, _, _, _, _, _, _, l2, _⟩ := F'.ex
  rw [l1] at l2
  cases l2
  rfl
end Mi

namespace Mi
open PySem PySem.Spec PyProof.Rows L2
/-! ### name op= e, of whole numbers -/
def addID : G2 := fun _ a b => match a, b with
  | .int i, .int j => some (.int (i + j))
  | _, _ => none
def subID : G2 := fun _ a b => match a, b with
  | .int i, .int j => some (.int (i - j))
  | _, _ => none
section
variable {X : Cx}
theorem ipD_add : PIp X .Add (ipD X.K addID) := by
  intro pins s σ H x y v u Q I rx ry ⟨ρ, S, a, b, z, hS, ra, rb, e, q⟩
  unfold addID at e
  split at e
  · cases e; cases ra; cases rb
    exact ip_add pins s σ H _ _ v u Q I rx ry ⟨_, _, rfl, rfl, q ρ H _ hS .refl rfl⟩
  · cases e
theorem ipD_sub : PIp X .Sub (ipD X.K subID) := by
  intro pins s σ H x y v u Q I rx ry ⟨ρ, S, a, b, z, hS, ra, rb, e, q⟩
  unfold subID at e
  split at e
  · cases e; cases ra; cases rb
    exact ip_sub pins s σ H _ _ v u Q I rx ry ⟨_, _, rfl, rfl, q ρ H _ hS .refl rfl⟩
  · cases e
end
/-! ### chains of three comparisons -/
def tChain3 (r r' r'' : R2) (ta tb tc td : TE) : TE := fun σ H Q => ta σ H fun x H1 => tb σ H1 fun y H2 => r x y H2 fun z H3 => ∃ k, z = .bl k ∧
  (if k = true then tc σ H3 fun w' H4 => r' y w' H4 fun z' H5 => ∃ k', z' = .bl k' ∧ (if k' = true then td σ H5 fun u' H6 => r'' w' u' H6 Q else Q (.bl false) H5) else Q (.bl false) H3)
def mChain3 (g g' g'' : G2) (ma mb mc md : TM) : TM := fun env S => (ma env S).bind fun a S1 => (mb env S1).bind fun b S2 => match g S2 a b with
  | some (.bl true) => (mc env S2).bind fun c S3 => match g' S3 b c with
    | some (.bl true) => (md env S3).bind fun d S4 => R.of (g'' S4 c d) S4
    | some (.bl false) => .ok (.bl false) S3
    | _ => .bad
  | some (.bl false) => .ok (.bl false) S2
  | _ => .bad
section
variable {X : Cx} {W : WX} {a b c d : Expr} {ta tb tc td : TE} {ma mb mc md : TM} {pos : Pos}
theorem pe_chain3 {op op' op'' : CmpOp} {r r' r'' : R2} (ho : OpR X (compareOp op) r) (ho' : OpR X (compareOp op') r') (ho'' : OpR X (compareOp op'') r'') (ha : PE X a ta) (hb : PE X b tb) (hc : PE X c tc) (hd : PE X d td)
    (hm : lastMarks [op, op', op''] [b, c, d] = false := by with_unfolding_all rfl) : PE X (.Compare a [op, op', op''] [b, c, d] pos) (tChain3 r r' r'' ta tb tc td) := by
  refine ⟨fun pins s σ H Q I h => ?_⟩
  refine Compare_chain (thn (ha.run pins s σ H _ I h) fun v s1 ⟨x, H1, I1, r1, q1⟩ => chain_link (thn (hb.run pins s1 σ H1 _ I1 q1) fun u s2 ⟨y, H2, I2, r2, q2⟩ =>
    thn (ho pins s2 σ H2 x y v u _ I2 r1 r2 q2) fun d s3 ⟨z, H3, I3, r3, k, e, q3⟩ => ?_)) hm
  subst e
  cases r3
  refine wpAny_truthy_bool ?_
  cases k with
  | false => exact ite_ff ⟨.bl false, H3, I3, rfl, q3⟩
  | true =>
    refine ite_tt (chain_link (thn (hc.run pins s3 σ H3 _ I3 q3) fun w' s4 ⟨z', H4, I4, r4, q4⟩ => thn (ho' pins s4 σ H4 y z' u w' _ I4 r2 r4 q4) fun d' s5 ⟨z2, H5, I5, r5, k2, e2, q5⟩ => ?_))
    subst e2
    cases r5
    refine wpAny_truthy_bool ?_
    cases k2 with
    | false => exact ite_ff ⟨.bl false, H5, I5, rfl, q5⟩
    | true => exact ite_tt (chain_last (thn (hd.run pins s5 σ H5 _ I5 q5) fun w2 s6 ⟨z6, H6, I6, r6, q6⟩ => ho'' pins s6 σ H6 z' z6 w' w2 Q I6 r4 r6 q6))
theorem d_chain3 {op op' op'' : CmpOp} {g g' g'' : G2} (ho : OpR X (compareOp op) (rD X.K g)) (ho' : OpR X (compareOp op') (rD X.K g')) (ho'' : OpR X (compareOp op'') (rD X.K g'')) (ha : DE X W a ma) (hb : DE X W b mb) (hc : DE X W c mc) (hd : DE X W d md)
    (hm : lastMarks [op, op', op''] [b, c, d] = false := by with_unfolding_all rfl) : DE X W (.Compare a [op, op', op''] [b, c, d] pos) (mChain3 g g' g'' ma mb mc md) :=
  ⟨PE.imp (pe_chain3 ho ho' ho'' ha.p hb.p hc.p hd.p hm) fun σ H Q ⟨ρ, S, env, hS, hE, h⟩ => by
    refine Post.bindK hS hE h fun x H1 ρ1 S1 d1 hS1 hE1 st1 r1 h1 => ?_
    refine Post.bindK hS1 hE1 h1 fun y H2 ρ2 S2 d2 hS2 hE2 st2 r2 h2 => ?_
    cases e : g S2 d1 d2 with
    | none => rw [e] at h2; exact h2.elim
    | some z =>
      rw [e] at h2
      refine ⟨ρ2, S2, d1, d2, z, hS2, r1.step hS1 st2, r2, e, fun ρ3 H3 v3 hS3 st3 r3 => ?_⟩
      cases z with
      | bl k =>
        cases r3
        refine ⟨k, rfl, ?_⟩
        cases k with
        | false =>
          rw [if_neg Bool.false_ne_true]
          exact h2 ρ3 H3 (.bl false) hS3 st3 rfl
        | true =>
          rw [if_pos rfl]
          refine Post.bindK hS3 (hE2.step hS2 st3) (h2.step st3) fun w' H4 ρ4 S4 d4 hS4 hE4 st4 r4 h4 => ?_
          cases e' : g' S4 d2 d4 with
          | none => rw [e'] at h4; exact h4.elim
          | some z' =>
            rw [e'] at h4
            refine ⟨ρ4, S4, d2, d4, z', hS4, (r2.step hS2 st3).step hS3 st4, r4, e', fun ρ5 H5 v5 hS5 st5 r5 => ?_⟩
            cases z' with
            | bl k' =>
              cases r5
              refine ⟨k', rfl, ?_⟩
              cases k' with
              | false =>
                rw [if_neg Bool.false_ne_true]
                exact h4 ρ5 H5 (.bl false) hS5 st5 rfl
              | true =>
                rw [if_pos rfl]
                refine Post.bindK hS5 (hE4.step hS4 st5) (h4.step st5) fun u' H6 ρ6 S6 d6 hS6 hE6 st6 r6 h6 => ?_
                cases e'' : g'' S6 d4 d6 with
                | none => rw [e''] at h6; exact h6.elim
                | some z'' =>
                  rw [e''] at h6
                  exact ⟨ρ6, S6, d4, d6, z'', hS6, (r4.step hS4 st5).step hS5 st6, r6, e'', h6⟩
            | _ => exact h4.elim
      | _ => exact h2.elim⟩
end
end Mi

/-! enumerate of a tuple -/
namespace Mi.En
open PySem PySem.Spec PyProof.Rows L2
open Sem (wp)
open AutoSeq1 (wpAny_loadPart')
theorem made (t : Addr) (xs : Array Value) (k : Nat) (d : Option Addr) (sl : Array (Option Value)) :
    Meets (Builtin.«enumerate.__new__» ⟨[.type "enumerate", .ref t], []⟩) (fun _ R s => s.heap.get? t = some { cls := .type "tuple", dict := d, data := .seq xs k, slots := sl } ∧
      R (.ok (.ret (.ref (s.heap.push { cls := .type "tuple_iterator", data := .fields #[.ref t, .int 0 0] }).objs.size)))
        { s with heap := (s.heap.push { cls := .type "tuple_iterator", data := .fields #[.ref t, .int 0 0] }).push { cls := .type "enumerate", data := .fields #[.none, .bool false, .ref s.heap.objs.size, rawInt 0, .none, .none] } }) :=
  .of_wp fun prog w A R s h => by
    obtain ⟨hp, g, dr, tk, os⟩ := s
    obtain ⟨ht, h⟩ := h
    have sub := sub_enumerate
    have hT : Heap.IsTuple (Shared.heap ⟨hp, g, dr, tk, os⟩) t xs := ⟨_, ht, rfl, k, rfl⟩
    wp_walk using wpAny_loadPart' ht
    refine wpAny_stack_any fun st => wpAny_pure ?_
    split
    · rename_i c _ _ _ _ _
      cases (c == Value.type "enumerate")
      · wp_walk using wpAny_loadPart' ht, wpAny_pyIter_tuple hT
        exact ⟨_, rfl, h⟩
      · wp_walk using wpAny_loadPart' ht, wpAny_pyIter_tuple hT
        exact ⟨_, rfl, h⟩
    · wp_walk using wpAny_loadPart' ht, wpAny_pyIter_tuple hT
      exact ⟨_, rfl, h⟩
section
variable {prog : Program} {w : World} {A : Around} {E : Value → Shared → Prop} {s : Shared}
theorem called {t : Addr} {xs : Array Value} {Q : Value → Shared → Prop} (hT : s.heap.IsTuple t xs)
    (h : ∀ h', IsEnum h' (s.heap.objs.size + 1) s.heap.objs.size 0 .none → h'.IsTupleIter s.heap.objs.size t 0 → (∀ b o, s.heap.get? b = some o → h'.get? b = some o) → Q (.ref (s.heap.objs.size + 1)) { s with heap := h' }) :
    wpAny (model prog w) A (call (.type "enumerate") [.ref t]) Q E s := by
  obtain ⟨⟨c, d, dt, sl⟩, ht, hc, k, hd⟩ := hT
  have hc' : c = .type "tuple" := hc
  have hd' : dt = .seq xs k := hd
  subst hc' hd'
  refine callType_new F.called_enumerate (by decide) (F.typeCall_enumerate_1 _) (F.newCall_enumerate_1 _) (fun obj => F.args_object_init_2 obj _) F.entry_enumerate_new (made t xs k d sl) ⟨ht, ?_⟩
  generalize hh : s.heap.push { cls := .type "tuple_iterator", data := .fields #[.ref t, .int 0 0] } = h1
  have z : h1.objs.size = s.heap.objs.size + 1 := by rw [← hh]; exact Heap.size_push ..
  have g1 : h1.get? s.heap.objs.size = some { cls := .type "tuple_iterator", data := .fields #[.ref t, .int 0 0] } := by rw [← hh]; exact Heap.get?_push_size _ rfl
  have g2 : ∀ b o, s.heap.get? b = some o → h1.get? b = some o := fun b o q => by rw [← hh]; exact Heap.get?_push_of_some _ q
  show _ ∧ _
  rw [z]
  have he := Heap.get?_push_size h1 (o := { cls := .type "enumerate", data := .fields #[.none, .bool false, .ref s.heap.objs.size, rawInt 0, .none, .none] }) rfl
  rw [z] at he
  exact ⟨⟨_, he, rfl⟩, h _ he ⟨_, Heap.get?_push_of_some _ g1, rfl, rfl⟩ fun b o q => Heap.get?_push_of_some _ (g2 b o q)⟩
theorem draws (hh : A.handled = none) (it t : Addr) (hne : t ≠ it) (xs : Array Value) :
    Draws prog w A it [it, t] xs.size (fun i x => xs[i]? = some x) (fun i h => h.IsTupleIter it t i ∧ h.IsTuple t xs) where
  live := fun i h ⟨⟨o, ho, _⟩, _⟩ => ⟨o, ho⟩
  frame := fun i h h' ⟨a, o, ho, hc, k, hd⟩ q => ⟨a.at fun o z => q it (by simp) o z, o, q t (by simp) o ho, hc, k, hd⟩
  item := fun i s Q E hi ⟨a, b⟩ q => RZ.nextOf_tuple_item a b (x := xs[i]) (by simp [hi]) fun h' a' sb => by
    obtain ⟨o, ho, hc, k, hd⟩ := b
    exact q xs[i] h' s.toks (by simp [hi]) ⟨a', o, (sb.2 t hne).trans ho, hc, k, hd⟩ sb
  done := fun s Q E ⟨a, b⟩ q => RZ.nextOf_tuple_end hh a b (by simp) q
theorem ended {e it t : Addr} {i : Nat} {n : Int} {xs : Array Value} {old : Value} {Q : Option Value → Shared → Prop} (hh : A.handled = none) (he : IsEnum s.heap e it n old) (hit : s.heap.IsTupleIter it t i) (hT : s.heap.IsTuple t xs) (hx : xs[i]? = none)
    (hQ : ∀ h', Heap.ExtBut it s.heap h' → Q none { s with heap := h' }) : wpAny (model prog w) A (pyNext (.ref e)) Q E s := by
  have ty : s.TypeIs (.ref e) "enumerate" := ⟨_, he, rfl⟩
  unfold pyNext
  refine wpAny_bind (wpAny_attempt (wpAny_callSpecial?_slot (name := Str.ofString "__next__") ty F.slot_enumerate_next (wpAny_call_entry F.slot_enumerate_next ty F.entry_enumerate_next ?_ (F.args_enumerate_next_1 _))))
  show wpAny _ _ (field (.ref e) 2 >>= _) _ _ _
  refine wpAny_bind (wpAny_field he rfl (x := .ref it) rfl (wpAny_bind (RZ.nextOf_tuple_end hh hit hT hx fun h' x he' hx' => ?_)))
  obtain ⟨o, ho, hc⟩ := hx'
  exact wpAny_bind (wpAny_isInstance (T := "StopIteration") (b := true) ⟨o, ho, hc⟩ isSubtype_stop (wpAny_pure (hQ _ he')))
end
/-- the tuple at a, each item in a new pair with its number -/
def IteT (K : PySem.W.Frag) (a : Addr) : It where
  go i H := ∃ (xs : List V) (x : V), SqT K H a xs ∧ xs[i]? = some x
  yld i H v H' := ∃ T x, v = .ref T ∧ H T = none ∧ H' = upd H T (.tup [.int (i : Nat), x]) ∧ ∀ xs, SqT K H a xs → xs[i]? = some x
  stop i H := ∃ xs : List V, SqT K H a xs ∧ xs.length ≤ i
theorem turnT {P : Program} {w : World} {K : PySem.W.Frag} {elts : List Expr} {kk : Nat} {tpos : Pos} (a e it : Addr) :
    Turn P w K (.Tuple elts kk tpos) (IteT K a) [e, it] e (fun i h => (∃ old, IsEnum h e it ((i : Nat) : Int) old) ∧ h.IsTupleIter it a i ∧ (e ≠ it ∧ a ≠ it ∧ e ≠ a)) where
  mem := by simp
  obj := fun i h st b hb => by
    obtain ⟨⟨old, he⟩, ⟨o, ho, hc, hd⟩, _⟩ := st
    rcases (show b = e ∨ b = it by simpa using hb) with z | z
    · subst z; exact ⟨_, he, fun v q => nomatch q⟩
    · subst z; exact ⟨o, ho, fun v q => by rw [hd] at q; cases q⟩
  keep := fun i h h' st k => by
    obtain ⟨⟨old, he⟩, hi, hne⟩ := st
    exact ⟨⟨old, k e (by simp) _ he⟩, hi.at fun o q => k it (by simp) o q, hne⟩
  item := by
    intro X hP hw hK hc i pins s σ H E I hf st hg
    subst hP hw hK
    obtain ⟨⟨old, he⟩, hit, hne, hne2, hne3⟩ := st
    obtain ⟨xs, x, hq, hx⟩ := hg
    obtain ⟨its, rv, p, hz⟩ := I.tuple hq
    obtain ⟨u, hu, ru⟩ := rv.get hx
    have hel : e < s.heap.objs.size := Heap.lt_size he
    have hil : it < s.heap.objs.size := by obtain ⟨_, q, _⟩ := hit; exact Heap.lt_size q
    have hlt : i < its.length := (List.getElem?_eq_some_iff.mp hu).1
    have D := draws (prog := X.prog) (w := X.w) (A := X.A.in1) (I.ok.hd hc) it a hne2 its.toArray
    refine wpAny_pyNext_enum_itemD D he ⟨hit, p⟩ (by simpa using hlt) hne (by simp [hne, hne3]) fun y h' tk hy ho hst hT hsz hk => ?_
    have ey : y = u := by
      have e1 : its[i]? = some y := by simpa using hy
      rw [hu] at e1
      exact (Option.some.inj e1).symm
    subst ey
    refine ⟨_, rfl, wpAny_letOwnedTupleGo_enum (s := { s with heap := h', toks := tk + 1 }) ho fun h'' he' sb => ?_⟩
    have hT2 := (sb.2 _ (Nat.ne_of_gt hel)).trans hT
    have new : ObjOk X.prog X.w (upd H s.heap.objs.size (.tup [.int (i : Nat), x])) h'' s.heap.objs.size (.tup [.int (i : Nat), x]) :=
      ⟨by show 2 ≤ sizeLine; decide, [.int i tk, y], .cons ⟨_, rfl⟩ (.cons ru .nil), ⟨_, hT2, rfl, _, rfl⟩⟩
    have k2 : ∀ b ob, b ∉ [e, it] → s.heap.get? b = some ob → h''.get? b = some ob := fun b ob hb q =>
      (sb.2 b (fun z => hb (by simp [z]))).trans (hk b ob (fun z => hb (by simp [z])) (fun z => hb (by simp [z])) q)
    have I1 : Inv X pins σ (upd H s.heap.objs.size (.tup [.int (i : Nat), x])) { s with heap := h'', toks := tk + 1 } := I.turnedNew (ch := [e, it]) k2 hf (Nat.le_refl _) new
    refine ⟨.ref s.heap.objs.size, _, I1, rfl, ⟨_, x, rfl, I.hok.fresh (Nat.le_refl _), rfl, fun ys hy2 => by rw [I.tuple_inj hy2 hq]; exact hx⟩, ⟨⟨y, ?_⟩, hst.1.at fun o q => (sb.2 it (Ne.symm hne)).trans q, hne, hne2, hne3⟩, fun b hb => ?_⟩
    · rw [show ((i + 1 : Nat) : Int) = (i : Int) + 1 by omega]
      exact he'
    · have hb' : b < s.heap.objs.size := by
        rcases (show b = e ∨ b = it by simpa using hb) with z | z
        · rw [z]; exact hel
        · rw [z]; exact hil
      rw [upd_ne (Nat.ne_of_lt hb')]
      exact (hf b hb).1
  done := by
    intro X hP hw hK hc i pins s σ H E I hf st hg
    subst hP hw hK
    obtain ⟨⟨old, he⟩, hit, hne, hne2, hne3⟩ := st
    obtain ⟨xs, hq, hx⟩ := hg
    obtain ⟨its, rv, p, hz⟩ := I.tuple hq
    obtain ⟨f0, f1, f2, f3, f4, f5⟩ := hf it (by simp)
    have hl := rv.length
    exact ended (I.ok.hd hc) he hit p (by simp; omega) fun h' eb => ⟨rfl, I.turned (t' := s.toks) (fun b o hb q => eb b o hb q) f0 f1 f3 f4 f5⟩
  self := fun A i s Q E st h => by
    obtain ⟨⟨_, he⟩, _⟩ := st
    exact wpAny_pyIter_enum he h
def iEnumT (K : PySem.W.Frag) (ta : TA) : TI := fun σ H R => ta σ H fun vs H1 => ∃ a xs, vs = [.ref a] ∧ SqT K H1 a xs ∧ R (IteT K a) H1
theorem pi_enumT {X : Cx} {e : Expr} {ta : TA} {p pos tpos : Pos} {elts : List Expr} {kk : Nat} (hg : Gl X "enumerate") (hm : X.mg "enumerate" = none) (ha : PA X [e] ta) (hs : starEach [e] X.env = [(false, eval e X.env)] := by rfl) :
    PI X (.Tuple elts kk tpos) (.Call (.Name "enumerate" p) [e] [] pos) (iEnumT X.K ta) := by
  refine ⟨fun pins s σ H R I h => ?_⟩
  refine Call_ (ld_blt I hg hm boot_enumerate (PyProof.Rows.callWith_type1 (thn (ha.run pos pins s σ H _ I h) fun us s1 ⟨vs, H1, I1, r1, q1⟩ => ?_) hs rfl))
  obtain ⟨a, xs, ex, hq, q⟩ := q1
  subst ex
  cases r1 with
  | cons r rr =>
    cases rr
    cases r
    obtain ⟨its, rv, tp, hz⟩ := I1.tuple hq
    have hal : a < s1.heap.objs.size := by obtain ⟨_, z, _⟩ := tp; exact Heap.lt_size z
    refine called tp fun h' he hit hk => wpAny_pyIter_enum he ?_
    have I2 : Inv X pins σ H1 { s1 with heap := h' } := I1.kept (t' := s1.toks) hk
    refine ⟨s1.heap.objs.size + 1, [s1.heap.objs.size + 1, s1.heap.objs.size], _, _, H1, rfl, I2, turnT a (s1.heap.objs.size + 1) s1.heap.objs.size, ⟨⟨.none, he⟩, hit, Nat.succ_ne_self _, Nat.ne_of_lt hal, fun z => Nat.not_lt_of_le (Nat.le_succ _) (z ▸ hal)⟩, fun b hb => ?_, q⟩
    have hle : s1.heap.objs.size ≤ b := by
      rcases (show b = s1.heap.objs.size + 1 ∨ b = s1.heap.objs.size by simpa using hb) with z | z
      · rw [z]; exact Nat.le_succ _
      · rw [z]; exact Nat.le_refl _
    exact I1.fpOk hle (I1.hok.fresh hle)
end Mi.En
namespace Mi
open PySem PySem.Spec PyProof.Rows L2
def iEnT (n : AM) : IM := fun env S => (n env S).bind fun ds S1 => match ds with
  | [.tup l] => .ok (enumD l, fun _ => True) S1
  | _ => .bad
section
variable {K : PySem.W.Frag} {ρ : Rho} {S : Sto} {H : Hp}
theorem it_enumT {l : List D} {p : Addr} (hS : SOk K ρ S H) (r1 : Rp K ρ H (.tup l) (.ref p)) : ItOk K (En.IteT K p) (enumD l) (fun _ => True) ρ H := by
  refine ⟨fun i ρ' S' H' hi hS' st g => ?_, fun ρ' S' H' hS' st g => ?_, fun i ρ' S' H' x H2 hi hS' st g y => ?_⟩
  all_goals
    obtain ⟨vs, h2, h1⟩ := seq_at (v := .ref p) (l := l) hS r1 rfl hS' st trivial
    rcases h1 with ⟨_, h5⟩ | ⟨h1, _⟩
    case inl => exact absurd rfl (h5 l)
  · rw [enumD_length] at hi
    have i1 : i < vs.length := by rw [← h2.length]; omega
    exact ⟨vs, vs[i], h1, by simp [i1]⟩
  · rw [enumD_length]
    exact ⟨vs, h1, by rw [← h2.length]; omega⟩
  · obtain ⟨T, x1, rfl, hT, e3, y2⟩ := y
    obtain ⟨d1, g1, s1⟩ := YAt_get h2 (y2 vs h1)
    rw [enumD_length] at hi
    have gi := rangeD_get (lo := 0) hi
    rw [Int.zero_add] at gi
    obtain ⟨q1, q2, q3⟩ := new_pair (d := .int (i : Int)) hS' rfl s1 hT e3
    exact ⟨_, zipD_get gi g1, q1, q2, q3⟩
end
theorem i_enumT {X : Cx} {W : WX} {elts : List Expr} {kk : Nat} {tpos p pos : Pos} {e : Expr} {n : AM} (hg : Gl X "enumerate") (hm : X.mg "enumerate" = none) (ha : DA X W [e] n) (hs : starEach [e] X.env = [(false, eval e X.env)] := by rfl) : DI X W (.Tuple elts kk tpos) (.Call (.Name "enumerate" p) [e] [] pos) (iEnT n) :=
  ⟨PI.imp (En.pi_enumT hg hm ha.p hs) fun σ H Q ⟨ρ, S, env, hS, hE, h⟩ => tI.bindK hS hE h fun v H1 ρ1 S1 ds hS1 hE1 st1 r1 h1 => by
    match ds with
    | [.tup l] =>
      obtain ⟨w1, rfl, s1⟩ := r1.dest1
      obtain ⟨p, vs, rfl, h2, h3⟩ := id s1
      exact ⟨p, vs, rfl, h2.sq, h1 ρ1 H1 _ hS1 .refl (it_enumT hS1 s1)⟩
    | [] => exact False.elim h1
    | .non :: _ => exact False.elim h1
    | .bl _ :: _ => exact False.elim h1
    | .int _ :: _ => exact False.elim h1
    | .str _ :: _ => exact False.elim h1
    | .lst _ :: _ => exact False.elim h1
    | .wls _ :: _ => exact False.elim h1
    | .loc _ :: _ => exact False.elim h1
    | .gl _ :: _ => exact False.elim h1
    | .ty _ :: _ => exact False.elim h1
    | .dic _ _ :: _ => exact False.elim h1
    | .ftp _ :: _ => exact False.elim h1
    | .tup _ :: _ :: _ => exact False.elim h1⟩
end Mi

namespace Mi
open PySem PySem.Spec PyProof.Rows L2
/-! list(x) as a list that may change -/
def mListN (n : AM) : TM := fun env S => (n env S).bind fun ds S1 => match ds with
  | [d] => match seqD S1 d with
    | some l => R.new (.lst l) S1
    | none => .bad
  | _ => .bad
/-- sorted([a, b]) -/
def sort2D : GL := fun S ds => match ds with
  | [d] => match lstD S d with
    | some [.int a, .int b] => some (.lst [.int (if b < a then b else a), .int (if b < a then a else b)])
    | _ => none
  | _ => none
/-- l.index(x) -/
def idxD : GMt := fun S o ds => match ds with
  | [d] => match lstD S o with
    | some l => if SeqAt.shaped (der S d).py = true ∧ SeqAt.shaped (.list (D.pys l)) = true then ((D.pys l).findIdx? fun z => PyData.eqv z (der S d).py).map fun j => (.int (j : Int), S) else none
    | none => none
  | _ => none
section
variable {X : Cx} {W : WX} {p pos : Pos} {e : Expr} {n : AM}
theorem d_listN (hg : Gl X "list") (hm : X.mg "list" = none) (ha : DA X W [e] n) (he : starEach [e] X.env = (false, eval e X.env) :: starEach [] X.env := by rfl) (hpl : (backTo pos (starEach [] X.env)).any (·.1) = false := by rfl) : DE X W (.Call (.Name "list" p) [e] [] pos) (mListN n) :=
  ⟨PE.imp (pe_callTy call_list_of hg hm bt_list ha.p (by decide) (by decide) he hpl) fun σ H Q ⟨ρ, S, env, hS, hE, h⟩ => Post.bindK hS hE h fun vs H1 ρ1 S1 ds hS1 hE1 st1 r1 h1 => by
    rcases ds with _ | ⟨d, _ | ⟨d2, r⟩⟩
    · exact False.elim h1
    · cases hl : seqD S1 d with
      | none => simp only [hl] at h1; exact False.elim h1
      | some l =>
        simp only [hl] at h1
        obtain ⟨v, rfl, s1⟩ := r1.dest1
        obtain ⟨q, xs, rfl, h2, h3⟩ := der_seq hS1 s1 hl
        exact ⟨q, xs, rfl, h2.imp (·.1) (·.1.sq), fun z hz => new_loc hS1 h3 hz h1⟩
    · exact False.elim h1⟩
theorem two_ints {K : PySem.W.Frag} {ρ : Rho} {H : Hp} {a b : Int} {vs : List V} (h : Rps K ρ H [.int a, .int b] vs) : vs = [a, b].map V.int := by
  obtain ⟨v, r, rfl, h1, v2, r2, rfl, h2, h3⟩ := h
  cases h1; cases h2; cases h3
  rfl
theorem sort2_perm {a b : Int} {ns : List Int} (h : ns.Perm [a, b]) (s : ns.Pairwise (· ≤ ·)) : ns = [if b < a then b else a, if b < a then a else b] := by
  have hl := h.length_eq
  match ns, hl with
  | [x, y], _ =>
    have hxy : x ≤ y := by
      cases s with
      | cons h1 h2 => exact h1 y (by simp)
    have hx : x ∈ [a, b] := h.mem_iff.mp (by simp)
    have hy : (x = a ∧ y = b) ∨ (x = b ∧ y = a) := by
      simp at hx
      rcases hx with e | e
      · subst e
        have h2 : [y].Perm [b] := List.Perm.cons_inv h
        have : y ∈ [b] := h2.mem_iff.mp (by simp)
        simp at this
        exact .inl ⟨rfl, this⟩
      · subst e
        have h2 : [y].Perm [a] := List.Perm.cons_inv (h.trans (List.Perm.swap x a []))
        have : y ∈ [a] := h2.mem_iff.mp (by simp)
        simp at this
        exact .inr ⟨rfl, this⟩
    by_cases q : b < a
    · rw [if_pos q, if_pos q]
      congr 1
      · omega
      · congr 1; omega
    · rw [if_neg q, if_neg q]
      congr 1
      · omega
      · congr 1; omega
theorem cD_sort2 : CallR X (.builtin "sorted") (rL X.K sort2D) := by
  intro pins s σ H xs us Q I r ⟨ρ, S, ds, z, hS, rd, e, q⟩
  unfold sort2D at e
  split at e
  · rename_i d
    split at e
    · rename_i a b hl
      cases e
      obtain ⟨v, rfl, h1⟩ := rd.dest1
      obtain ⟨p, vs, rfl, h2, h3⟩ := der_lst hS h1 hl
      have e1 := two_ints h3
      subst e1
      exact cr_sortedI pins s σ H _ us Q I r ⟨p, [a, b], rfl, h2, fun ns' p' hp hs hn => by
        rw [sort2_perm hp hs]
        exact new_lst (l := [.int _, .int _]) hS ⟨_, _, rfl, rfl, _, _, rfl, rfl, rfl⟩ hn q⟩
    · cases e
  · cases e
theorem mD_idx (hu : X.A.units + 65 < cLine) : MtR X "list.index" (rM X.K idxD) := by
  intro pins s σ H x xs v us Q I rx rxs ⟨ρ, S, d, ds, z, S', hS, rd, rds, e, q⟩
  unfold idxD at e
  rcases ds with _ | ⟨d1, _ | ⟨d2, r⟩⟩
  · cases e
  · simp only at e
    cases hl : lstD S d with
    | none => rw [hl] at e; cases e
    | some l =>
      rw [hl] at e
      simp only at e
      split at e
      · rename_i hsh
        cases hf : (D.pys l).findIdx? fun z => PyData.eqv z (der S d1).py with
        | none => rw [hf] at e; cases e
        | some j =>
          rw [hf] at e
          cases e
          obtain ⟨w, rfl, r2⟩ := rds.dest1
          obtain ⟨p, vs, rfl, h2, h3⟩ := der_lst hS rd hl
          rw [List.findIdx?_eq_some_iff_getElem] at hf
          obtain ⟨hj, hj1, hj2⟩ := hf
          have c2 : PyData.canLayAll0 (D.pys l) = true := by
            have := SeqAt.canLay_of_shaped hsh.2
            simpa [PyData.canLay0] using this
          refine mt_indexD hu pins s σ H _ _ v us Q I rx rxs ⟨p, w, (der S d1).py, D.pys l, j, (D.pys l)[j], rfl, rfl, .lst h2 (Rps.dp l vs h3 c2), der_dp hS r2 (SeqAt.canLay_of_shaped hsh.1), hsh.2, hsh.1, by simp [hj], hj1, fun m z' hm hz => ?_, q ρ H _ hS .refl rfl⟩
          have hm2 : m < (D.pys l).length := by omega
          have e3 : (D.pys l)[m] = z' := by
            rw [List.getElem?_eq_getElem hm2] at hz
            exact Option.some.inj hz
          have := hj2 m hm
          rw [e3] at this
          simpa using this
      · cases e
  · cases e
end
end Mi

namespace Mi
open PySem PySem.Spec PyProof.Rows L2
theorem bt_sorted : bootBuiltins "sorted" = some (.builtin "sorted") := by decide +kernel
/-! enumerate of a list or a tuple -/
def iEnA (n : AM) : IM := fun env S => (n env S).bind fun ds S1 => match ds with
  | [.tup l] => .ok (enumD l, fun _ => True) S1
  | [a] => match lstD S1 a with
    | some l => .ok (enumD l, gdSeq a l) S1
    | _ => .bad
  | _ => .bad
theorem i_enumA {X : Cx} {W : WX} {elts : List Expr} {kk : Nat} {tpos p pos : Pos} {e : Expr} {n : AM} (hg : Gl X "enumerate") (hm : X.mg "enumerate" = none) (ha : DA X W [e] n) (hs : starEach [e] X.env = [(false, eval e X.env)] := by rfl) : DI X W (.Tuple elts kk tpos) (.Call (.Name "enumerate" p) [e] [] pos) (iEnA n) := by
  refine ⟨PI.imp (PI.or (i_enum (W := W) hg hm ha hs).p (i_enumT (W := W) hg hm ha hs).p) fun σ H Q ⟨ρ, S, env, hS, hE, h⟩ => ?_⟩
  have key : iEnA n env S = iEnD n env S ∨ iEnA n env S = iEnT n env S := by
    unfold iEnA iEnD iEnT
    cases n env S with
    | bad => exact .inl rfl
    | exc C fs S1 => exact .inl rfl
    | ok ds S1 =>
      rcases ds with _ | ⟨d, _ | ⟨d2, r⟩⟩
      · exact .inl rfl
      · cases d with
        | tup l => exact .inr rfl
        | _ => exact .inl rfl
      · cases d with
        | tup l => exact .inr rfl
        | _ => exact .inl rfl
  rcases key with k | k
  · rw [k] at h
    exact .inl ⟨ρ, S, env, hS, hE, h⟩
  · rw [k] at h
    exact .inr ⟨ρ, S, env, hS, hE, h⟩
end Mi

namespace MiR
open PySem PyProof.Rows
open PySem.SeqAt
open PySem.AutoSeq1 (wpAny_loadPart')
open PySem.MeetsSeq PySem.MeetsSeq2 PySem.MeetsSeq3
/-! ### t[::-1], t a tuple -/
section
variable {prog : Program} {w : World} {A : Around} {E : Value → Shared → Prop} {s : Shared}
theorem applied_rev {sl : Addr} {vl vu vs : Value} {n : Nat} {Q : Int × Int × Nat → Shared → Prop} (hs : s.heap.IsSliceOf sl vl vu vs) (pl : IsPart vl none) (pu : IsPart vu none) (ps : IsPart vs (some (-1)))
    (h : Q ((n : Int) - 1, -1, n) s) : wpAny (model prog w) A (Builtin.Slice.sliceApplied (.ref sl) (pure (n : Int))) Q E s := by
  obtain ⟨os, hos, hcs, hds⟩ := id hs
  unfold Builtin.Slice.sliceApplied Builtin.Slice.sliceFields
  refine wpAny_bind (wpAny_bind (wpAny_field hos hds (x := vl) rfl (wpAny_bind (wpAny_field hos hds (x := vu) rfl (wpAny_bind (wpAny_field hos hds (x := vs) rfl (wpAny_pure ?_)))))))
  refine wpAny_bind (HT.slicePart_ ps ?_)
  show wpAny _ _ (if ((-1 : Int) == 0) = true then _ else _) _ _ s
  rw [if_neg (by decide)]
  refine wpAny_bind (HT.slicePart_ pl (wpAny_bind (HT.slicePart_ pu (wpAny_bind (wpAny_pure ?_)))))
  show wpAny _ _ (pure (((n : Int) - 1, (-1 : Int), Builtin.Slice.slicePlaces ((n : Int) - 1) (-1) (-1)))) _ _ s
  have e : Builtin.Slice.slicePlaces ((n : Int) - 1) (-1) (-1) = n := by
    unfold Builtin.Slice.slicePlaces
    have h1 : ¬ ((-1 : Int) > 0) := by decide
    simp only [h1, if_false]
    by_cases q : (n : Int) - 1 > -1
    · rw [if_pos q, show (- -1 : Int) = 1 by decide, Int.ediv_one]; omega
    · rw [if_neg q]; omega
  rw [e]
  exact wpAny_pure h
theorem pick_rev (xs : Array Value) : ((List.range xs.size).filterMap fun (m : Nat) => xs[((xs.size : Int) - 1 + (m : Int) * -1).toNat]?).toArray = xs.toList.reverse.toArray := by
  have e : ((List.range xs.size).filterMap fun (m : Nat) => xs[((xs.size : Int) - 1 + (m : Int) * -1).toNat]?) = ((List.range xs.size).map fun k => xs.size - 1 - k).filterMap (xs[·]?) := by
    rw [List.filterMap_map]
    have cg : ∀ (l : List Nat), (∀ m ∈ l, m < xs.size) → l.filterMap (fun (m : Nat) => xs[((xs.size : Int) - 1 + (m : Int) * -1).toNat]?) = l.filterMap ((xs[·]?) ∘ fun k => xs.size - 1 - k) := fun l => by
      induction l with
      | nil => intro _; rfl
      | cons m l ih =>
        intro hl
        have e1 : xs[((xs.size : Int) - 1 + (m : Int) * -1).toNat]? = ((xs[·]?) ∘ fun k => xs.size - 1 - k) m := by
          show xs[((xs.size : Int) - 1 + (m : Int) * -1).toNat]? = xs[xs.size - 1 - m]?
          have := hl m List.mem_cons_self
          rw [show ((xs.size : Int) - 1 + (m : Int) * -1).toNat = xs.size - 1 - m by omega]
        rw [List.filterMap_cons, List.filterMap_cons, e1, ih fun k hk => hl k (List.mem_cons_of_mem _ hk)]
    exact cg _ fun m hm => List.mem_range.mp hm
  rw [e, PySem.W.krv_range, List.filterMap_reverse, PySem.W.krv_all]
theorem getItem_tuple_rev {t sl : Addr} {items : Array Value} {vl vu vs : Value} {Q : Value → Shared → Prop} (ht : IsTup s.heap t items) (hs : s.heap.IsSliceOf sl vl vu vs) (pl : IsPart vl none) (pu : IsPart vu none) (ps : IsPart vs (some (-1)))
    (h : Q (.ref s.heap.objs.size) { s with heap := s.heap.push { cls := .type "tuple", data := .seq items.toList.reverse.toArray } })
    (hsz : items.size ≤ sizeLine) : wpAny (model prog w) A (getItem (.ref t) (.ref sl)) Q E s := by
  have htake : sizeOk (.seq items.toList.reverse.toArray) := by
    show items.toList.reverse.toArray.size ≤ sizeLine
    rw [List.size_toArray, List.length_reverse, Array.length_toList]
    exact hsz
  obtain ⟨os, hos, hcs, hds⟩ := id hs
  have hTs : s.TypeIs (.ref sl) "slice" := ⟨os, hos, hcs⟩
  unfold getItem
  try with_reducible refine wpAny_holding ?_
  first | refine wpAny_bind (wpAny_pure ?_) | skip
  refine wpAny_bind (wpAny_sequenceKey ht.typeIs (by decide) ?_)
  refine wpAny_bind (wpAny_callSpecial?_slot (name := Str.ofString "__getitem__") ht.typeIs PyProof.Rows.slot_tuple_getitem
    (wpAny_call_entry PyProof.Rows.slot_tuple_getitem ht.typeIs entry_tuple_getitem ?_ (args_tuple_getitem _ _)))
  show wpAny _ _ (Builtin.Tuple.tupleItemsOf (.ref t) >>= _) _ _ s
  refine wpAny_bind (tupleItemsOf_ ht ?_)
  refine wpAny_bind (wpAny_typeOf hTs ?_)
  rw [if_pos (by decide)]
  refine wpAny_bind (applied_rev hs pl pu ps ?_)
  have hno : ¬ ((((items.size : Int) - 1) == 0 && (-1 : Int) == 1 && items.size == items.size) = true) := by
    intro q
    rw [Bool.and_eq_true, Bool.and_eq_true] at q
    exact absurd q.1.2 (by decide)
  show wpAny _ _ (if (((items.size : Int) - 1) == 0 && (-1 : Int) == 1 && items.size == items.size) = true then _ else _) _ _ s
  rw [if_neg hno, pick_rev]
  first
    | exact wpAny_bind (m := Builtin.Tuple.tupleExact _) (wpAny_newObj_type (wpAny_pure ⟨_, rfl, wpAny_pure h⟩) htake)
    | exact wpAny_bind (m := Builtin.Tuple.tupleExact _) (wpAny_newObj_type (wpAny_bind (wpAny_pure (wpAny_pure ⟨_, rfl, wpAny_pure h⟩))) htake)
    | exact wpAny_bind (wpAny_bind (m := Builtin.Tuple.tupleExact _) (wpAny_newObj_type (wpAny_pure (wpAny_pure ⟨_, rfl, wpAny_pure h⟩)) htake))
    | exact wpAny_bind (wpAny_bind (m := Builtin.Tuple.tupleExact _) (wpAny_newObj_type (wpAny_pure ⟨_, rfl, wpAny_pure h⟩) htake))
end
end MiR
namespace Mi
open PySem PySem.Spec PyProof.Rows L2
/-- a[::-1] of a list or a tuple -/
def tRevA (K : PySem.W.Frag) (te : TE) : TE := fun σ H Q => te σ H fun x H1 => ∃ a xs, x = .ref a ∧ ((SqL K H1 a xs ∧ ∀ p, H1 p = none → Q (.ref p) (upd H1 p (.lst xs.reverse))) ∨ (SqT K H1 a xs ∧ ∀ p, H1 p = none → Q (.ref p) (upd H1 p (.tup xs.reverse))))
section
variable {X : Cx}
theorem pe_revA {e : Expr} {te : TE} {k : Nat} {p1 p2 p3 pos : Pos} (he : PE X e te) : PE X (.Subscript e (.Slice none none (some (.UnaryOp .USub (.Constant (.int 1) k p1) p2)) p3) pos) (tRevA X.K te) := by
  refine ⟨fun pins s σ H Q I h => ?_⟩
  refine Subscript_ (thn (he.run pins s σ H _ I h) fun v s1 ⟨x, H1, I1, r1, q1⟩ => ?_)
  obtain ⟨a, xs, ex, q⟩ := q1
  subst ex
  cases r1
  have hst : PO X (some (.UnaryOp .USub (.Constant (.int 1) k p1) p2)) (tPart (tUn (rU fun i => .int (-i)) (tC (.int 1)))) := po_some (pe_un un_neg pe_int)
  refine wpAny_Slice (thn (po_none.run pins s1 σ H1 (fun o H2 => o = none ∧ H2 = H1) I1 ⟨rfl, rfl⟩) fun vl s2 ⟨l, H2, I2, pl, el, e2⟩ => ?_)
  subst el e2
  refine thn (po_none.run pins s2 σ H2 (fun o H3 => o = none ∧ H3 = H2) I2 ⟨rfl, rfl⟩) fun vu s3 ⟨u, H3, I3, pu, eu, e3⟩ => ?_
  subst eu e3
  refine thn (hst.run pins s3 σ H3 (fun o H4 => o = some (-1) ∧ H4 = H3) I3 ⟨1, rfl, -1, rfl, rfl, rfl⟩) fun vs s4 ⟨o, H4, I4, ps, eo, e4⟩ => ?_
  subst eo e4
  have I5 : Inv X pins σ H4 { s4 with heap := s4.heap.push { cls := .type "slice", data := .fields #[vl, vu, vs] } } := I4.kept (t' := s4.toks) fun b ob q => Heap.get?_push_of_some _ q
  show wpAny (model X.prog X.w) X.A (subscriptTail e (.Slice none none (some (.UnaryOp .USub (.Constant (.int 1) k p1) p2)) p3) (.ref a) (.ref s4.heap.objs.size)) (EP X pins σ Q) X.xe { s4 with heap := s4.heap.push { cls := .type "slice", data := .fields #[vl, vu, vs] } }
  rcases q with ⟨hx, q⟩ | ⟨hx, q⟩
  · obtain ⟨its, r, ht, hz⟩ := I5.list hx
    have hlen := r.length
    refine tail_any (ops := [.ref a, .ref s4.heap.objs.size]) ht.isList.typeIs (PySem.slot_list_getitem.lookup) ?_ (by with_unfolding_all rfl)
    refine wpAny_getItem_list_slice ht.isList (Heap.IsSliceOf.new _ vl vu vs) pl pu ps (by decide) ?_ (by rw [List.size_toArray]; omega)
    rw [PySem.W.krv_pick]
    refine ⟨.ref _, _, I5.laid (t' := s4.toks) (o := .lst xs.reverse) (fun b ob q => Heap.get?_push_of_some _ q) (Nat.le_refl _) ?_, rfl, q _ (I5.hok.fresh (Nat.le_refl _))⟩
    exact ⟨by rw [List.length_reverse]; exact hz, _, 0, r.reverse, Heap.get?_push_size _ rfl⟩
  · obtain ⟨its, r, ht, hz⟩ := I5.tuple hx
    have hlen := r.length
    refine tail_any (ops := [.ref a, .ref s4.heap.objs.size]) ht.typeIs (PyProof.Rows.slot_tuple_getitem.lookup) ?_ (by with_unfolding_all rfl)
    refine MiR.getItem_tuple_rev ht (Heap.IsSliceOf.new _ vl vu vs) pl pu ps ?_ (by rw [List.size_toArray]; omega)
    refine ⟨.ref _, _, I5.laid (t' := s4.toks) (o := .tup xs.reverse) (fun b ob q => Heap.get?_push_of_some _ q) (Nat.le_refl _) ?_, rfl, q _ (I5.hok.fresh (Nat.le_refl _))⟩
    exact ⟨by rw [List.length_reverse]; exact hz, _, r.reverse, IsTup.new _ _⟩
end
/-- a[::-1] -/
def revA (S : Sto) (d : D) : Option D := match d with
  | .tup l => some (.tup l.reverse)
  | d => (lstD S d).map fun l => .lst l.reverse
def mRevA (m : TM) : TM := fun env S => (m env S).bind fun d S1 => R.of (revA S1 d) S1
section
variable {X : Cx} {W : WX} {e : Expr} {m : TM} {p1 p2 p3 pos : Pos} {k : Nat}
theorem d_revA (he : DE X W e m) : DE X W (.Subscript e (.Slice none none (some (.UnaryOp .USub (.Constant (.int 1) k p1) p2)) p3) pos) (mRevA m) :=
  ⟨PE.imp (pe_revA he.p) fun σ H Q ⟨ρ, S, env, hS, hE, h⟩ => Post.bindK hS hE h fun v H1 ρ1 S1 d hS1 hE1 st1 r1 h1 => by
    have lists : ∀ l, lstD S1 d = some l → Post X.K W (Rp X.K) ρ1 H1 σ (R.ok (.lst l.reverse) S1) Q → ∃ a xs, v = .ref a ∧ ((SqL X.K H1 a xs ∧ ∀ p, H1 p = none → Q (.ref p) (upd H1 p (.lst xs.reverse))) ∨ (SqT X.K H1 a xs ∧ ∀ p, H1 p = none → Q (.ref p) (upd H1 p (.tup xs.reverse)))) := fun l hl h2 => by
      obtain ⟨p, vs, e1, h3, h4⟩ := der_lst hS1 r1 hl
      exact ⟨p, vs, e1, .inl ⟨h3, fun q hq => new_lst hS1 h4.reverse hq h2⟩⟩
    unfold revA at h1
    split at h1
    · rename_i l
      obtain ⟨p, vs, e1, h3, h4⟩ := r1
      exact ⟨p, vs, e1, .inr ⟨h3.sq, fun q hq => new_tup hS1 h4.reverse hq h1⟩⟩
    · cases hl : lstD S1 d with
      | none => rw [hl] at h1; exact h1.elim
      | some l => rw [hl] at h1; exact lists l hl h1⟩
end
end Mi

namespace Mi
open PySem PySem.Spec PyProof.Rows L2
/-! ### dict displays that stay -/
def dicD (kvs : List (Key × D)) : D := .dic ((mergeD [] kvs).map (·.1)) ((mergeD [] kvs).map (·.2))
def mDic (n : PM) : TM := fun env S => (n env S).bind fun ps S1 => match kvsD ps with
  | some kvs => if kvs.length ≤ 15 then .ok (dicD kvs) S1 else .bad
  | none => .bad
def mDic0 : TM := fun _ S => .ok (.dic [] []) S
theorem KVs.split {K : PySem.W.Frag} {ρ : Rho} {H : Hp} : ∀ {l : List (Key × D)} {vs : List (Key × V)}, KVs K ρ H l vs → vs = (l.map (·.1)).zip (vs.map (·.2)) ∧ Rps K ρ H (l.map (·.2)) (vs.map (·.2))
  | [], _, h => by cases h; exact ⟨rfl, rfl⟩
  | d :: ds, _, h => by
    obtain ⟨v, r, rfl, h1, h2⟩ := h
    obtain ⟨e, rr⟩ := KVs.split h2
    refine ⟨?_, v, _, rfl, h1, rr⟩
    show _ = (d.1, v) :: (ds.map (·.1)).zip (r.map (·.2))
    rw [← e]
section
variable {X : Cx} {W : WX} {pos : Pos} {k v : Expr} {ks : List (Option Expr)} {vs : List Expr} {mk mv : TM} {n : PM}
theorem d_dic (h : DPs X W pos ks vs n) (hall : ks.all (·.isSome) = true := by rfl) (hl : ks.length = vs.length := by rfl) (h0 : ks ≠ [] := by exact List.cons_ne_nil _ _) (h15 : ks.length ≤ 15 := by decide) : DE X W (.Dict ks vs pos) (mDic n) := by
  obtain ⟨trs, h1, h2⟩ := h.ex
  refine ⟨PE.imp (pe_disp h1 hall hl h0 h15) fun σ H Q ⟨ρ, S, env, hS, hE, h⟩ p hp => h2 _ _ _ ?_⟩
  have hv : ¬ ρ.pv p := (hS.noN hp).2
  have st0 : Stp ρ (ρ.hide p) H (upd H p (.dK [])) := Stp.hide (Stp.alloc hp) hp
  have hS0 : SOk X.K (ρ.hide p) S (upd H p (.dK [])) := hS.hideO trivial hp
  refine ⟨ρ.hide p, S, env, hS0, hE.hideO hp, ?_⟩
  unfold mDic at h
  revert h
  generalize n env S = r
  intro h
  cases r with
  | bad => exact h
  | exc C fs S1 => exact fun ρ4 H4 d xs q1 q2 q3 q4 q5 => h ρ4 H4 d xs q1 (st0.trans q2) q3 q4 q5
  | ok ps S1 =>
    intro ρ4 H4 us hS4 st4 r4
    have e4 : H4 p = some (.dK []) := st4.keep p _ upd_same (hS0.prv p (.inr rfl)).2
    obtain ⟨ρ5, rfl, hv5, st5⟩ := st4.unhide hv
    refine ⟨e4, ?_⟩
    rw [R.bind_ok] at h
    cases ek : kvsD ps with
    | none => rw [ek] at h; exact h.elim
    | some kvs =>
      rw [ek] at h
      simp only at h
      split at h
      · rename_i hlen
        obtain ⟨ws, rfl, rw_⟩ := kvsD_ok r4 ek
        refine ⟨ws, rfl, by rw [← rw_.length]; exact hlen, ?_⟩
        have mkp : ∀ u, H4 p = some u → Mk u := fun u hu => by rw [e4] at hu; cases hu; trivial
        have pv5 : (ρ5.hide p).pv p := .inr rfl
        have hS6 : SOk X.K (ρ5.hide p) S1 (upd H4 p (.dK (mergeK [] ws))) := SOk.pupdO trivial hS4 pv5
        have kv6 : KVs X.K (ρ5.hide p) (upd H4 p (.dK (mergeK [] ws))) (mergeD [] kvs) (mergeK [] ws) := KVs.pupd mkp pv5 _ _ (KVs.merge rw_ rfl)
        have kv7 := KVs.re (ρ := ρ5.hide p) (ρ' := ρ5) (fun _ _ z => z) unh _ _ kv6
        obtain ⟨e7, r7⟩ := KVs.split kv7
        have stA : Stp ρ ρ5 H (upd H4 p (.dK (mergeK [] ws))) := ((Stp.alloc hp).trans st5).putO hp
        exact h _ _ _ hS6.unhide stA ⟨p, _, rfl, by rw [← e7]; exact upd_same, by simp, ⟨(hS6.prv p (.inr rfl)).2, hv5⟩, r7⟩
      · exact h.elim
theorem d_dic0 : DE X W (.Dict [] [] pos) mDic0 :=
  ⟨PE.imp pe_dnewK fun σ H Q ⟨ρ, S, env, hS, hE, h⟩ p hp => by
    have hS1 := hS.alloc (o := .dK []) hp
    exact h ρ _ _ hS1 (Stp.alloc hp) ⟨p, [], rfl, upd_same, rfl, hS.noN hp, rfl⟩⟩
end
/-! ### x == [] and x == () -/
def emptyB (S : Sto) (a b : D) : Option Bool := match der S b with
  | .lst [] => match der S a with
    | .lst l => some l.isEmpty
    | _ => none
  | .tup [] => match der S a with
    | .tup l => some l.isEmpty
    | _ => none
  | _ => none
def eq0D : G2 := fun S a b => (emptyB S a b).map .bl
def ne0D : G2 := fun S a b => (emptyB S a b).map fun c => .bl (!c)
theorem emptyB_ok {K : PySem.W.Frag} {ρ : Rho} {S : Sto} {H : Hp} {a b : D} {x y : V} {k : Bool} (hS : SOk K ρ S H) (ra : Rp K ρ H a x) (rb : Rp K ρ H b y) (e : emptyB S a b = some k) :
    ∃ p q xs, x = .ref p ∧ y = .ref q ∧ k = xs.isEmpty ∧ ((SqL K H p xs ∧ SqL K H q []) ∨ (SqT K H p xs ∧ SqT K H q [])) := by
  have lists : ∀ {d : D} {v : V} {l : List D}, Rp K ρ H d v → der S d = .lst l → ∃ p xs, v = .ref p ∧ SqL K H p xs ∧ xs.isEmpty = l.isEmpty := fun {d v l} r hd => by
    have : lstD S d = some l := by simp [lstD, hd]
    obtain ⟨p, vs, e1, h2, h3⟩ := der_lst hS r this
    refine ⟨p, vs, e1, h2, ?_⟩
    have := h3.length
    cases vs <;> cases l <;> simp_all
  have tups : ∀ {d : D} {v : V} {l : List D}, Rp K ρ H d v → der S d = .tup l → ∃ p xs, v = .ref p ∧ SqT K H p xs ∧ xs.isEmpty = l.isEmpty := fun {d v l} r hd => by
    have : d = .tup l := by
      cases d with
      | loc n =>
        unfold der at hd
        simp only at hd
        split at hd <;> cases hd
      | _ => exact hd
    subst this
    obtain ⟨p, vs, e1, h2, h3⟩ := r
    refine ⟨p, vs, e1, h2.sq, ?_⟩
    have := h3.length
    cases vs <;> cases l <;> simp_all
  unfold emptyB at e
  split at e
  · rename_i hb
    split at e
    · rename_i l ha
      cases e
      obtain ⟨p, xs, e1, h1, h2⟩ := lists ra ha
      obtain ⟨q, ys, e3, h3, h4⟩ := lists rb hb
      have : ys = [] := by simpa using h4
      subst this
      exact ⟨p, q, xs, e1, e3, h2.symm, .inl ⟨h1, h3⟩⟩
    · cases e
  · rename_i hb
    split at e
    · rename_i l ha
      cases e
      obtain ⟨p, xs, e1, h1, h2⟩ := tups ra ha
      obtain ⟨q, ys, e3, h3, h4⟩ := tups rb hb
      have : ys = [] := by simpa using h4
      subst this
      exact ⟨p, q, xs, e1, e3, h2.symm, .inr ⟨h1, h3⟩⟩
    · cases e
  · cases e
theorem vals_nil {us : List Value} (r : Vals [] us) : us = [] := by cases r; rfl
section
variable {X : Cx}
theorem opD_eq0 (hu : X.A.units + 64 < cLine) : OpR X (compareOp .Eq) (rD X.K eq0D) := by
  intro pins s σ H x y v u Q I rx ry ⟨ρ, S, a, b, z, hS, ra, rb, e, q⟩
  unfold eq0D at e
  cases ek : emptyB S a b with
  | none => rw [ek] at e; cases e
  | some k =>
    rw [ek] at e
    cases e
    obtain ⟨p, p', xs, rfl, rfl, ek', h⟩ := emptyB_ok hS ra rb ek
    cases rx
    cases ry
    have hu0 : X.A.units < cLine := by omega
    have fin : ∃ x' H', Inv X pins σ H' s ∧ RelV x' (.bool k) ∧ Q x' H' := ⟨.bl k, H, I, rfl, q ρ H _ hS .refl rfl⟩
    rcases h with ⟨h1, h2⟩ | ⟨h1, h2⟩
    · obtain ⟨its, r, ht, hz⟩ := I.list h1
      obtain ⟨its2, r2, ht2, hz2⟩ := I.list h2
      have e2 := vals_nil r2
      subst e2
      by_cases hx : xs = []
      · subst hx
        have e3 := vals_nil r
        subst e3
        refine SeqAt.eq_listAt (e := fun _ => true) ht.isList ht2.isList rfl hu0 (fun j h1 => absurd h1 (Nat.not_lt_zero _)) ?_
        rw [ek'] at fin
        exact fin
      · have hl : its.length ≠ 0 := by rw [← r.length]; exact fun z => hx (List.length_eq_zero_iff.mp z)
        refine SeqAt.eq_list_lengthsAt ht.isList ht2.isList (by simp [bne, hl]) hu0 ?_
        have : k = false := by rw [ek']; cases xs <;> simp_all
        rw [this] at fin
        exact fin
    · obtain ⟨its, r, ht, hz⟩ := I.tuple h1
      obtain ⟨its2, r2, ht2, hz2⟩ := I.tuple h2
      have e2 := vals_nil r2
      subst e2
      refine SeqAt.eq_tupleAt (e := fun _ => true) ht ht2 hu0 (fun j h1 h2 => absurd h2 (Nat.not_lt_zero _)) ?_
      have hk : k = ((List.range (min its.toArray.size (#[] : Array Value).size)).all (fun _ => true) && its.toArray.size == (#[] : Array Value).size) := by
        rw [ek']
        have := r.length
        cases xs <;> cases its <;> simp_all
      rw [hk] at fin
      exact fin
theorem opD_ne0 (hu : X.A.units + 64 < cLine) : OpR X (compareOp .NotEq) (rD X.K ne0D) := by
  intro pins s σ H x y v u Q I rx ry ⟨ρ, S, a, b, z, hS, ra, rb, e, q⟩
  unfold ne0D at e
  cases ek : emptyB S a b with
  | none => rw [ek] at e; cases e
  | some k =>
    rw [ek] at e
    cases e
    obtain ⟨p, p', xs, rfl, rfl, ek', h⟩ := emptyB_ok hS ra rb ek
    cases rx
    cases ry
    have hu0 : X.A.units < cLine := by omega
    have fin : ∃ x' H', Inv X pins σ H' s ∧ RelV x' (.bool (!k)) ∧ Q x' H' := ⟨.bl (!k), H, I, rfl, q ρ H _ hS .refl rfl⟩
    rcases h with ⟨h1, h2⟩ | ⟨h1, h2⟩
    · obtain ⟨its, r, ht, hz⟩ := I.list h1
      obtain ⟨its2, r2, ht2, hz2⟩ := I.list h2
      have e2 := vals_nil r2
      subst e2
      by_cases hx : xs = []
      · subst hx
        have e3 := vals_nil r
        subst e3
        refine SeqAt.RcNeAt.lists (e := fun _ => true) ht.isList ht2.isList rfl hu0 (fun j h1 => absurd h1 (Nat.not_lt_zero _)) X.prog X.w _ _ ?_
        rw [ek'] at fin
        exact fin
      · have hl : its.length ≠ 0 := by rw [← r.length]; exact fun z => hx (List.length_eq_zero_iff.mp z)
        refine SeqAt.RcNeAt.lists_lengths ht.isList ht2.isList (by simp [bne, hl]) hu0 X.prog X.w _ _ ?_
        have : k = false := by rw [ek']; cases xs <;> simp_all
        rw [this] at fin
        exact fin
    · obtain ⟨its, r, ht, hz⟩ := I.tuple h1
      obtain ⟨its2, r2, ht2, hz2⟩ := I.tuple h2
      have e2 := vals_nil r2
      subst e2
      refine SeqAt.RcNeAt.tuples (e := fun _ => true) ht ht2 hu0 (fun j h1 h2 => absurd h2 (Nat.not_lt_zero _)) X.prog X.w _ _ ?_
      have hk : k = ((List.range (min its.toArray.size (#[] : Array Value).size)).all (fun _ => true) && its.toArray.size == (#[] : Array Value).size) := by
        rw [ek']
        have := r.length
        cases xs <;> cases its <;> simp_all
      rw [hk] at fin
      exact fin
end
end Mi

namespace Mi
open PySem PySem.Spec PyProof.Rows L2
/-! ### slices, of texts too -/
def slA (S : Sto) (a : D) (lo hi : Option Int) : Option D := match a with
  | .str z => if z.length ≤ 16777216 then some (.str (cutS z lo hi)) else none
  | d => slD S d lo hi
def mSlA (m : TM) (lo hi : En → Sto → R (Option Int)) : TM := fun env S => (m env S).bind fun a S1 => (lo env S1).bind fun l S2 => (hi env S2).bind fun u S3 => R.of (slA S3 a l u) S3
/-- str(i) -/
def strD : GL := fun _ ds => match ds with
  | [.int i] => if i.natAbs.log2 < 1920 then some (.str (toString i)) else none
  | _ => none
section
variable {X : Cx} {W : WX} {a b c : Expr} {ma mb mc : TM} {n : AM} {pos p2 : Pos} {lo hi : Option Expr} {ml mh : En → Sto → R (Option Int)}
theorem d_slA (h : DE X W a ma) (hl : DO X W lo ml) (hu : DO X W hi mh) : DE X W (.Subscript a (.Slice lo hi none p2) pos) (mSlA ma ml mh) :=
  ⟨PE.imp (pe_slice (SlR.or sl_str (SlR.or sl_tupA sl_list)) h.p hl.p hu.p) fun σ H Q ⟨ρ, S, env, hS, hE, h⟩ => by
    refine Post.bindK hS hE h fun x H1 ρ1 S1 d1 hS1 hE1 st1 r1 h1 => ?_
    refine Post.bindK hS1 hE1 h1 fun y H2 ρ2 S2 o1 hS2 hE2 st2 r2 h2 => ?_
    refine Post.bindK hS2 hE2 h2 fun z H3 ρ3 S3 o2 hS3 hE3 st3 r3 h3 => ?_
    cases r2; cases r3
    have r1' := (r1.step hS1 st2).step hS2 st3
    cases e : slA S3 d1 y z with
    | none => rw [e] at h3; exact h3.elim
    | some d =>
      rw [e] at h3
      have lists : ∀ (p1 : Addr) (xs : List V) (l : List D), x = .ref p1 → SqL X.K H3 p1 xs → Rps X.K ρ3 H3 l xs → d = .lst (cutD l y z) → rSlL X.K x y z H3 Q := by
        intro p1 xs l ex hx rr ed
        subst ex ed
        exact ⟨p1, xs, rfl, hx, fun p hp => new_lst hS3 (rr.cut y z) hp h3⟩
      cases d1 with
      | str w =>
        unfold slA at e
        simp only at e
        split at e
        · rename_i hw
          cases e
          cases r1'
          exact .inl ⟨w, rfl, by rw [sizeLine16]; exact hw, h3 ρ3 H3 _ hS3 .refl rfl⟩
        · cases e
      | tup l =>
        cases e
        obtain ⟨p1, xs, rfl, hx, rr⟩ := r1'
        refine .inr (.inl ⟨p1, xs, rfl, hx.sq, fun hw => ?_, fun _ p hp => new_tup hS3 (rr.cut y z) hp h3⟩)
        refine h3 ρ3 H3 (.ref p1) hS3 .refl ⟨p1, xs, rfl, hx, ?_⟩
        have : cutD l y z = l := by
          unfold cutD
          rw [rr.length, hw.1, hw.2]
          rw [List.drop_zero, Nat.sub_zero, ← rr.length, List.take_length]
        rw [this]; exact rr
      | lst l =>
        cases e
        obtain ⟨p1, xs, ex, hx, _, rr⟩ := r1'
        exact .inr (.inr (lists p1 xs l ex (SqL.of hx) rr rfl))
      | wls l =>
        cases e
        obtain ⟨p1, xs, ex, hx, rr⟩ := r1'
        exact .inr (.inr (lists p1 xs l ex hx.sq rr rfl))
      | loc n =>
        obtain ⟨p1, ex, hx⟩ := r1'
        unfold slA slD der at e
        simp only at e
        cases hn : S3[n]? with
        | none => rw [hn] at e; cases e
        | some o =>
          rw [hn] at e
          cases o with
          | lst l =>
            cases e
            obtain ⟨a1, e1, xs, hx', rr⟩ := hS3.obj n _ hn
            rw [hx] at e1; cases e1
            exact .inr (.inr (lists p1 xs l ex (SqL.of hx') rr rfl))
          | _ => cases e
      | _ => cases e⟩
theorem cD_str : CallR X (.type "str") (rL X.K strD) := by
  intro pins s σ H xs us Q I r ⟨ρ, S, ds, z, hS, rd, e, q⟩
  unfold strD at e
  split at e
  · rename_i i
    split at e
    · rename_i hi
      cases e
      obtain ⟨v, rfl, h1⟩ := rd.dest1
      cases h1
      exact call_str_int pins s σ H _ us Q I r ⟨i, rfl, hi, q ρ H _ hS .refl rfl⟩
    · cases e
  · cases e
/-! ### list(range(n)) -/
def rngR (d : D) (S1 : Sto) : R D := match d with
  | .int j => if 0 ≤ j ∧ j ≤ 16777216 then .ok (.lst (rangeD 0 j.toNat)) S1 else .bad
  | _ => .bad
def mLstRg (m : TM) : TM := fun env S => (m env S).bind rngR
theorem rps_rg {K : PySem.W.Frag} {ρ : Rho} {H : Hp} : ∀ (l : List Nat), Rps K ρ H (l.map fun (i : Nat) => D.int (0 + (i : Int))) (l.map fun (i : Nat) => V.int ((i : Int)))
  | [] => rfl
  | a :: l => ⟨_, _, rfl, by show V.int (a : Int) = V.int (0 + (a : Int)); rw [Int.zero_add], rps_rg l⟩
theorem d_lstRg {e : Expr} {m : TM} {p p' pos pos' : Pos} (hc : X.calm = true) (hg : Gl X "list") (hm : X.mg "list" = none) (hg' : Gl X "range") (hm' : X.mg "range" = none) (he : DE X W e m)
    (na : starEach [e] X.env = (false, eval e X.env) :: starEach [] X.env := by rfl)
    (nb : starEach [Expr.Call (.Name "range" p') [e] [] pos'] X.env = (false, eval (Expr.Call (.Name "range" p') [e] [] pos') X.env) :: starEach [] X.env := by rfl) :
    DE X W (.Call (.Name "list" p) [.Call (.Name "range" p') [e] [] pos'] [] pos) (mLstRg m) :=
  ⟨PE.imp (pe_listRg hc hg hm (prg_1 hg' hm' he.p na) nb) fun σ H Q ⟨ρ, S, env, hS, hE, h⟩ => Post.bindK hS hE h fun v H1 ρ1 S1 d hS1 hE1 st1 r1 h1 => by
    unfold rngR at h1
    split at h1
    · rename_i j
      split at h1
      · rename_i hj
        cases r1
        refine ⟨j, rfl, RgOk.of_le (by omega) (by omega) (by omega) (by omega), fun q hq => ?_⟩
        have e1 : rgV 0 j = (List.range j.toNat).map fun (i : Nat) => V.int ((i : Int)) := by
          unfold rgV
          rw [Int.sub_zero]
          simp
        rw [e1]
        exact new_lst hS1 (rps_rg _) hq h1
      · exact h1.elim
    · exact h1.elim⟩
end
end Mi

namespace Mi
open PySem PySem.Spec PyProof.Rows L2
/-! ### sorted(l), l a list of tuples: a text first, ints behind it -/
abbrev SK := List (Int ⊕ List Nat)
def shp : Nat → Bool := fun i => i == 0
def keyVs : Nat → List V → Option SK
  | _, [] => some []
  | i, .int n :: r => if shp i = true then none else (keyVs (i + 1) r).map (Sum.inl n :: ·)
  | i, .str x :: r => if shp i = true then (keyVs (i + 1) r).map (Sum.inr x.cps.toList :: ·) else none
  | _, _ => none
def keyDs : Nat → List D → Option SK
  | _, [] => some []
  | i, .int n :: r => if shp i = true then none else (keyDs (i + 1) r).map (Sum.inl n :: ·)
  | i, .str x :: r => if shp i = true then (keyDs (i + 1) r).map (Sum.inr x.cps.toList :: ·) else none
  | _, _ => none
def tkD : D → Option SK
  | .tup (d :: l) => keyDs 0 (d :: l)
  | _ => none
theorem keyVs_items : ∀ {xs : List V} {us : List Value} {i : Nat} {k : SK}, Vals xs us → keyVs i xs = some k → tupItems shp i us = some k
  | _, _, _, _, .nil, h => h
  | x :: xs, u :: us, i, k, .cons r t, h => by
    cases x with
    | int n =>
      obtain ⟨tk, rfl⟩ := r
      simp only [keyVs] at h
      simp only [tupItems]
      by_cases hs : shp i = true
      · rw [if_pos hs] at h; cases h
      · rw [if_neg hs] at h ⊢
        cases hk : keyVs (i + 1) xs with
        | none => rw [hk] at h; cases h
        | some k' => rw [hk] at h; rw [keyVs_items t hk]; exact h
    | str x =>
      obtain ⟨tk, rfl⟩ := r
      simp only [keyVs] at h
      simp only [tupItems]
      by_cases hs : shp i = true
      · rw [if_pos hs] at h ⊢
        cases hk : keyVs (i + 1) xs with
        | none => rw [hk] at h; cases h
        | some k' => rw [hk] at h; rw [keyVs_items t hk]; exact h
      · rw [if_neg hs] at h; cases h
    | _ => simp [keyVs] at h
theorem keyDs_vs {K : PySem.W.Frag} {ρ : Rho} {H : Hp} : ∀ {l : List D} {xs : List V} {i : Nat} {k : SK}, Rps K ρ H l xs → keyDs i l = some k → keyVs i xs = some k
  | [], _, _, _, h, e => by cases h; exact e
  | d :: l, _, i, k, h, e => by
    obtain ⟨v, r, rfl, h1, h2⟩ := h
    cases d with
    | int n =>
      cases h1
      simp only [keyDs] at e
      simp only [keyVs]
      by_cases hs : shp i = true
      · rw [if_pos hs] at e; cases e
      · rw [if_neg hs] at e ⊢
        cases hk : keyDs (i + 1) l with
        | none => rw [hk] at e; cases e
        | some k' => rw [hk] at e; rw [keyDs_vs h2 hk]; exact e
    | str x =>
      cases h1
      simp only [keyDs] at e
      simp only [keyVs]
      by_cases hs : shp i = true
      · rw [if_pos hs] at e ⊢
        cases hk : keyDs (i + 1) l with
        | none => rw [hk] at e; cases e
        | some k' => rw [hk] at e; rw [keyDs_vs h2 hk]; exact e
      · rw [if_neg hs] at e; cases e
    | _ => simp [keyDs] at e
theorem keyDs_inj : ∀ {l m : List D} {i : Nat} {k : SK}, keyDs i l = some k → keyDs i m = some k → l = m
  | [], [], _, _, _, _ => rfl
  | [], e :: m, i, k, h1, h2 => by
    cases h1
    cases e <;> simp [keyDs] at h2
  | d :: l, [], i, k, h1, h2 => by
    cases h2
    cases d <;> simp [keyDs] at h1
  | d :: l, e :: m, i, k, h1, h2 => by
    have streq : ∀ {x y : Str}, x.cps = y.cps → x = y := fun {x y} h => by
      cases x; cases y
      simp only at h
      rw [h]
    cases d <;> cases e <;> simp [keyDs] at h1 h2
    · obtain ⟨q1, k1, h3, h4⟩ := h1
      obtain ⟨q2, k2, h5, h6⟩ := h2
      rw [← h4] at h6
      simp at h6
      rw [h6.2] at h5
      rw [h6.1, keyDs_inj h3 h5]
    · exact absurd h2.1 (by simp [h1.1])
    · exact absurd h1.1 (by simp [h2.1])
    · obtain ⟨q1, k1, h3, h4⟩ := h1
      obtain ⟨q2, k2, h5, h6⟩ := h2
      rw [← h4] at h6
      simp at h6
      rw [h6.2] at h5
      rw [keyDs_inj h3 h5]
      congr 2
      exact streq h6.1.symm
theorem tkD_inj {d e : D} {k : SK} (h1 : tkD d = some k) (h2 : tkD e = some k) : d = e := by
  unfold tkD at h1 h2
  split at h1
  · split at h2
    · rw [keyDs_inj h1 h2]
    · cases h2
  · cases h1
/-- not later than -/
def leD0 (d e : D) : Prop := ∀ a b, tkD d = some a → tkD e = some b → PyProof.Rows.lexLt itemOrd b a = false
theorem leD0_antisymm {d e : D} (h1 : leD0 d e) (h2 : leD0 e d) (hd : (tkD d).isSome = true) (he : (tkD e).isSome = true) : d = e := by
  cases ha : tkD d with
  | none => rw [ha] at hd; cases hd
  | some a =>
    cases hb : tkD e with
    | none => rw [hb] at he; cases he
    | some b =>
      have := PyProof.Rows.lex_total (O := itemOrd) a b (h2 b a hb ha) (h1 a b ha hb)
      subst this
      exact tkD_inj ha hb
open Classical in
noncomputable def srtD (l : List D) : List D := if h : ∃ l' : List D, l'.Perm l ∧ l'.Pairwise leD0 then choose h else l
theorem srtD_eq {l l' : List D} (hk : ∀ d ∈ l, (tkD d).isSome = true) (hp : l'.Perm l) (hs : l'.Pairwise leD0) : l' = srtD l := by
  have h : ∃ l' : List D, l'.Perm l ∧ l'.Pairwise leD0 := ⟨l', hp, hs⟩
  unfold srtD
  rw [dif_pos h]
  obtain ⟨q1, q2⟩ := Classical.choose_spec h
  refine List.Perm.eq_of_pairwise (fun a b ha hb h1 h2 => leD0_antisymm h1 h2 (hk a (hp.mem_iff.mp ha)) (hk b (q1.mem_iff.mp hb))) hs q2 (hp.trans q1.symm)
theorem srtD_perm {l : List D} : (srtD l).Perm l := by
  unfold srtD
  split
  · rename_i h; exact (Classical.choose_spec h).1
  · exact .rfl
noncomputable def sortTD : GL := fun S ds => match ds with
  | [d] => match lstD S d with
    | some l => if l.all (fun d => (tkD d).isSome) = true then some (.lst (srtD l)) else none
    | none => none
  | _ => none
theorem rps_perm {K : PySem.W.Frag} {ρ : Rho} {H : Hp} {ys xs : List V} (h : ys.Perm xs) : ∀ l : List D, Rps K ρ H l xs → ∃ l' : List D, l'.Perm l ∧ Rps K ρ H l' ys := by
  induction h with
  | nil => exact fun l h => ⟨l, .rfl, h⟩
  | cons a _ ih =>
    intro l h
    cases l with
    | nil => cases h
    | cons d l =>
      obtain ⟨v, r, e, h1, h2⟩ := h
      cases e
      obtain ⟨l', p, q⟩ := ih l h2
      exact ⟨d :: l', p.cons d, _, _, rfl, h1, q⟩
  | swap a b t =>
    intro l h
    cases l with
    | nil => cases h
    | cons d l =>
      obtain ⟨v, r, e, h1, h2⟩ := h
      cases e
      cases l with
      | nil => cases h2
      | cons d2 l =>
        obtain ⟨v, r, e, h3, h4⟩ := h2
        cases e
        exact ⟨d2 :: d :: l, .swap _ _ _, _, _, rfl, h3, _, _, rfl, h1, h4⟩
  | trans _ _ ih1 ih2 =>
    intro l h
    obtain ⟨l1, p1, q1⟩ := ih2 l h
    obtain ⟨l2, p2, q2⟩ := ih1 l1 q1
    exact ⟨l2, p2.trans p1, q2⟩
theorem rps_pw {K : PySem.W.Frag} {ρ : Rho} {H : Hp} {R : V → V → Prop} {R' : D → D → Prop} : ∀ {l : List D} {xs : List V}, Rps K ρ H l xs → xs.Pairwise R → (∀ d v e u, d ∈ l → e ∈ l → Rp K ρ H d v → Rp K ρ H e u → R v u → R' d e) → l.Pairwise R'
  | [], _, _, _, _ => .nil
  | d :: l, _, h, hp, k => by
    obtain ⟨v, r, rfl, h1, h2⟩ := h
    obtain ⟨p1, p2⟩ := List.pairwise_cons.mp hp
    refine List.pairwise_cons.mpr ⟨fun e he => ?_, rps_pw h2 p2 fun d v e u hd he => k d v e u (List.mem_cons_of_mem _ hd) (List.mem_cons_of_mem _ he)⟩
    obtain ⟨i, hi⟩ := List.mem_iff_getElem?.mp he
    obtain ⟨u, hu, ru⟩ := h2.get hi
    exact k d v e u List.mem_cons_self (List.mem_cons_of_mem _ he) h1 ru (p1 u (List.mem_of_getElem? hu))
theorem tkD_vs {K : PySem.W.Frag} {ρ : Rho} {H : Hp} {d : D} {v : V} {k : SK} (h : Rp K ρ H d v) (e : tkD d = some k) : ∃ t xs, v = .ref t ∧ SqT K H t xs ∧ keyVs 0 xs = some k ∧ xs ≠ [] := by
  unfold tkD at e
  split at e
  · obtain ⟨p, vs, rfl, h1, h2⟩ := h
    refine ⟨p, vs, rfl, h1.sq, keyDs_vs h2 e, fun z => ?_⟩
    subst z
    obtain ⟨_, _, e', _⟩ := h2
    cases e'
  · cases e
section
variable {X : Cx} {pins : List (Addr × Obj)} {σ : L2.St} {H : Hp} {s : Shared}
theorem tk_raw (I : Inv X pins σ H s) {t : Addr} {xs : List V} {k : SK} (h : SqT X.K H t xs) (e : keyVs 0 xs = some k) : G.tupKeyC s.heap shp (.ref t) = some k := by
  obtain ⟨its, r, ⟨o, ho, hc, n, hd⟩, hz⟩ := I.tuple h
  have h1 : G.isTupObj s.heap (.ref t) = true := by
    simp only [G.isTupObj, ho, hc]
    rfl
  unfold G.tupKeyC
  rw [if_pos h1]
  show (match s.heap.get? t with | some o => (match o.data with | .seq xs _ => tupItems shp 0 xs.toList | _ => none) | none => none) = some k
  rw [ho]
  show (match o.data with | .seq xs _ => tupItems shp 0 xs.toList | _ => none) = some k
  rw [hd]
  exact keyVs_items r e
theorem tups_of (I : Inv X pins σ H s) : ∀ {xs : List V} {us : List Value}, Vals xs us → (∀ x ∈ xs, ∃ t zs k, x = V.ref t ∧ SqT X.K H t zs ∧ keyVs 0 zs = some k ∧ zs ≠ []) → ∃ fs, TupsOf s.heap shp us fs
  | _, _, .nil, _ => ⟨[], .nil⟩
  | x :: xs, u :: us, .cons r t, h => by
    obtain ⟨fs, hf⟩ := tups_of I t fun y hy => h y (List.mem_cons_of_mem _ hy)
    obtain ⟨a, zs, k, rfl, h1, h2, h3⟩ := h x List.mem_cons_self
    cases r
    obtain ⟨its, r, ⟨o, ho, hc, n, hd⟩, hz⟩ := I.tuple h1
    cases zs with
    | nil => exact absurd rfl h3
    | cons z zs =>
      cases r with
      | cons rz rt =>
        rename_i w ws
        refine ⟨w :: fs, .cons ⟨a, o, _, n, rfl, ho, hc, hd, by simp, fun q => absurd q (by decide), fun _ => ?_⟩ hf⟩
        cases z with
        | str x =>
          obtain ⟨tk, rfl⟩ := rz
          exact ⟨x, tk, rfl⟩
        | int x => simp [keyVs, shp] at h2
        | _ => simp [keyVs] at h2
end
theorem arr_pw {κ : KeyKind} {xs : Array Keyed} (hs : SortedToK κ xs xs.size) (hd : ∀ p ∈ xs.toList, p.1 = p.2) : ((xs.map (·.2)).toList).Pairwise fun u v => ∀ a b, κ.keyOf u = some a → κ.keyOf v = some b → κ.blt b a = false := by
  rw [List.pairwise_iff_getElem]
  intro i j hi hj hij a b ha hb
  have hi' : i < xs.size := by simpa using hi
  have hj' : j < xs.size := by simpa using hj
  have q := hs i j (Nat.le_of_lt hij) hj'
  unfold KeyOrd.kle KK at q
  have e1 : xs[i]? = some xs[i] := by simp [hi']
  have e2 : xs[j]? = some xs[j] := by simp [hj']
  rw [e1, e2] at q
  simp only at q
  have d1 : xs[i].1 = xs[i].2 := hd _ (by simp)
  have d2 : xs[j].1 = xs[j].2 := hd _ (by simp)
  rw [d1, d2] at q
  have f1 : (xs.map (·.2)).toList[i] = xs[i].2 := by simp
  have f2 : (xs.map (·.2)).toList[j] = xs[j].2 := by simp
  rw [f1] at ha
  rw [f2] at hb
  rw [ha, hb] at q
  exact q
theorem zip_same {α : Type} : ∀ (l : List α) (p : α × α), p ∈ l.zip l → p.1 = p.2
  | [], p, h => by cases h
  | a :: l, p, h => by
    rcases List.mem_cons.mp h with e | e
    · rw [e]
    · exact zip_same l p e
theorem zip_snd {α : Type} : ∀ (l : List α), (l.zip l).map (·.2) = l
  | [] => rfl
  | a :: l => by
    show a :: (l.zip l).map (·.2) = a :: l
    rw [zip_snd l]
section
variable {X : Cx}
theorem cD_sortT : CallR X (.builtin "sorted") (rL X.K sortTD) := by
  intro pins s σ H xs us Q I r ⟨ρ, S, ds, z, hS, rd, e, q⟩
  unfold sortTD at e
  split at e
  · rename_i d
    cases hl : lstD S d with
    | none => rw [hl] at e; cases e
    | some l =>
      rw [hl] at e
      simp only at e
      split at e
      · rename_i hall
        cases e
        obtain ⟨v, rfl, h1⟩ := rd.dest1
        obtain ⟨p, vs, rfl, h2, h3⟩ := der_lst hS h1 hl
        have hk : ∀ d ∈ l, (tkD d).isSome = true := fun d hd => List.all_eq_true.mp hall d hd
        have hv : ∀ x ∈ vs, ∃ t zs k, x = V.ref t ∧ SqT X.K H t zs ∧ keyVs 0 zs = some k ∧ zs ≠ [] := fun x hx => by
          obtain ⟨i, hi⟩ := List.mem_iff_getElem?.mp hx
          have hil : i < l.length := by rw [h3.length]; exact (List.getElem?_eq_some_iff.mp hi).1
          obtain ⟨x', hx', rx⟩ := h3.get (List.getElem?_eq_getElem hil)
          rw [hi] at hx'; cases hx'
          have hs := hk _ (List.getElem_mem hil)
          cases hq : tkD l[i] with
          | none => rw [hq] at hs; cases hs
          | some k =>
            obtain ⟨t, zs, e1, e2, e3, e4⟩ := tkD_vs rx hq
            exact ⟨t, zs, k, e1, e2, e3, e4⟩
        obtain ⟨its, rv, hL, hz⟩ := I.list h2
        rw [Vals.ref1 r]
        obtain ⟨e1, e2⟩ := bkV_refs rv fun x m => by
          obtain ⟨t, _, _, e, _⟩ := hv x m
          exact ⟨t, e⟩
        obtain ⟨fs, hf⟩ := tups_of I rv hv
        refine G.sorted_tups (shape := shp) hL.isList hf (fun u hu => ?_) (by rw [← rv.length]; exact hz) fun st' hp hs _ => ?_
        · obtain ⟨t, rfl⟩ := e2 u hu
          have hm : V.ref t ∈ vs := by rw [e1]; exact List.mem_map.mpr ⟨_, hu, rfl⟩
          obtain ⟨t', zs, k, e, h4, h5, _⟩ := hv _ hm
          cases e
          exact ⟨k, tk_raw I h4 h5⟩
        · obtain ⟨ep, he'⟩ := PyProof.Rows.sortedAll_at s.heap its ((arrOf st').map (·.2))
          have hpl : (arrOf st').toList.Perm (its.zip its) := by
            rw [← pairsOf_toList]; exact Array.perm_iff_toList_perm.mp hp
          have hout : ((arrOf st').map (·.2)).toList.Perm its := by
            have := hpl.map (·.2)
            rw [zip_snd] at this
            simpa using this
          have h3' : ∀ u ∈ ((arrOf st').map (·.2)).toList, ∃ a, u = Value.ref a := fun u hu => e2 u (hout.mem_iff.mp hu)
          have hpv : (((arrOf st').map (·.2)).toList.map bkV).Perm vs := by rw [e1]; exact hout.map bkV
          have hsz : (arrOf st').size = (pairsOf its).size := hp.size_eq
          have pw := arr_pw (κ := G.tupKindC s.heap shp) (xs := arrOf st') (by rw [hsz]; exact hs) fun p hp' => zip_same its p (hpl.mem_iff.mp hp')
          obtain ⟨l', pl, rl⟩ := rps_perm hpv l h3
          have pwD : l'.Pairwise leD0 := by
            refine rps_pw (R := fun v u => ∀ a b, (∃ t, v = .ref t ∧ G.tupKeyC s.heap shp (.ref t) = some a) → (∃ t, u = .ref t ∧ G.tupKeyC s.heap shp (.ref t) = some b) → PyProof.Rows.lexLt itemOrd b a = false) rl ?_ fun d v e u hd he rd re hvu a b ha hb => ?_
            · rw [List.pairwise_map]
              refine List.Pairwise.imp (fun {u v} huv a b ha hb => ?_) pw
              obtain ⟨t, et, ht⟩ := ha
              obtain ⟨t', et', ht'⟩ := hb
              have eu := bkV_ref et
              have ev := bkV_ref et'
              subst eu ev
              exact huv a b ht ht'
            · obtain ⟨t, xs1, ev, h6, h7, _⟩ := tkD_vs rd ha
              obtain ⟨t', xs2, eu, h8, h9, _⟩ := tkD_vs re hb
              exact hvu a b ⟨t, ev, tk_raw I h6 h7⟩ ⟨t', eu, tk_raw I h8 h9⟩
          have el := srtD_eq hk pl pwD
          rw [el] at rl
          refine ⟨.ref _, upd H (s.heap.objs.size + 1) (.lst (((arrOf st').map (·.2)).toList.map bkV)), I.laid (t' := s.toks) (fun _ _ => PyProof.Rows.sortedAll_old) (Nat.le_succ _) ⟨by rw [hpv.length_eq]; exact hz, ((arrOf st').map (·.2)).toList, ep, bkV_vals h3', by rw [Array.toArray_toList]; exact he'⟩, rfl, new_lst hS rl (I.hok.fresh (Nat.le_succ _)) q⟩
      · cases e
  · cases e
end
end Mi

namespace MiZ
open PySem RZ
open PySem.Sem (wp)
/-- a zip whose pair has been handed out and is still there -/
abbrev IsZB (h : Heap) (z TI TO m : Addr) (f : Bool) : Prop :=
  h.get? z = some { cls := .type "zip", dict := none, data := .fields #[rawInt m, .bool f, .bool false, .ref TI, .ref TO], slots := #[] }
section
variable {prog : Program} {w : World} {A : Around} {E : Value → Shared → Prop} {s : Shared}
theorem wpAny_alive {a : Addr} {Q : Option Obj → Shared → Prop} (h : Q (s.heap.get? a) s) : wpAny (model prog w) A (loadIfAlive a) Q E s := by
  intro Γ p hΓ
  unfold loadIfAlive
  rw [Sem.wp_loadIfAlive]
  exact h
theorem notFree {z TI TO m : Addr} {f : Bool} {om : Obj} {Q : Bool → Shared → Prop} (hz : IsZB s.heap z TI TO m f) (hm : s.heap.get? m = some om)
    (h : ∀ h', IsZB h' z TI TO m true → Heap.SameBut z s.heap h' → Q false { s with heap := h' }) : wpAny (model prog w) A (Builtin.SmallTypes.ownedTupleIsFree (.ref z)) Q E s := by
  unfold Builtin.SmallTypes.ownedTupleIsFree
  refine wpAny_bind (wpAny_field hz rfl (x := rawInt m) rfl ?_)
  show wpAny _ _ (loadIfAlive ((m : Int)).toNat >>= _) _ _ _
  refine wpAny_bind (wpAny_alive ?_)
  rw [show ((m : Int)).toNat = m from Int.toNat_natCast m, hm]
  show wpAny _ _ (field (.ref z) 1 >>= _) _ _ _
  refine wpAny_bind (wpAny_field hz rfl (x := .bool f) rfl ?_)
  cases f with
  | true =>
    show wpAny _ _ (pure () >>= fun _ => pure false) _ _ _
    exact wpAny_bind (wpAny_pure (wpAny_pure (h s.heap hz (Heap.SameBut.refl ..))))
  | false =>
    show wpAny _ _ (setField (.ref z) 1 (.bool true) >>= fun _ => pure false) _ _ _
    exact wpAny_bind (wpAny_setField_rec hz (by simp) fun h₁ hz₁ hs₁ => wpAny_pure (h h₁ hz₁ hs₁))
theorem zipB_next_item {z TI TO i1 i2 l1 l2 m : Addr} {f : Bool} {om : Obj} {k1 k2 : Nat} {xs ys : Array Value} {x y : Value} {Q : Value → Shared → Prop} (D : ZipApart z TI TO i1 i2 l1 l2)
    (hz : IsZB s.heap z TI TO m f) (hm : s.heap.get? m = some om) (hTI : IsPair s.heap TI (.ref i1) (.ref i2))
    (h1 : s.heap.IsTupleIter i1 l1 k1) (h2 : s.heap.IsTupleIter i2 l2 k2) (hl1 : s.heap.IsTuple l1 xs) (hl2 : s.heap.IsTuple l2 ys) (hx : xs[k1]? = some x) (hy : ys[k2]? = some y)
    (hQ : ∀ h', IsZB h' z TI TO m true → h'.IsTupleIter i1 l1 (k1 + 1) → h'.IsTupleIter i2 l2 (k2 + 1) → IsPair h' s.heap.objs.size x y → h'.objs.size = s.heap.objs.size + 1 →
      (∀ c o, c ≠ z → c ≠ i1 → c ≠ i2 → s.heap.get? c = some o → h'.get? c = some o) → Q (.ref s.heap.objs.size) { s with heap := h' }) :
    wpAny (model prog w) A (Builtin.«zip.__next__» ⟨[.ref z], []⟩) (fun fin s' => ∃ v, fin = .done (.ret v) ∧ Q v s') E s := by
  show wpAny _ _ (field (.ref z) 2 >>= _) _ _ _
  refine wpAny_bind (wpAny_field hz rfl (x := .bool false) rfl ?_)
  show wpAny _ _ (field (.ref z) 3 >>= _) _ _ _
  refine wpAny_bind (wpAny_field hz rfl (x := .ref TI) rfl ?_)
  refine wpAny_bind (wpAny_seqItems hTI rfl ?_)
  show wpAny _ _ (Builtin.SmallTypes.ownedTupleIsFree (.ref z) >>= _) _ _ _
  refine wpAny_bind (notFree hz hm fun h₁ hz₁ hs₁ => ?_)
  simp only [Bool.false_eq_true, if_false]
  refine wpAny_bind ?_
  rw [← Array.forIn_toList]
  show wpAny _ _ (forIn [Value.ref i1, Value.ref i2] _ _) _ _ _
  simp only [List.forIn_cons, List.forIn_nil]
  refine wpAny_bind (wpAny_bind (wpAny_holding ?_))
  show wpAny _ _ (Builtin.SmallTypes.nextOf (.ref i1) >>= _) _ _ _
  refine wpAny_bind (nextOf_tuple_item (h1.extBut hs₁.extBut D.i1z) (hl1.extBut hs₁.extBut D.l1z) hx fun h₂ h1₂ hs₂ => wpAny_pure ?_)
  refine wpAny_pure ?_
  refine wpAny_bind (wpAny_bind (wpAny_holding ?_))
  show wpAny _ _ (Builtin.SmallTypes.nextOf (.ref i2) >>= _) _ _ _
  refine wpAny_bind (nextOf_tuple_item ((h2.extBut hs₁.extBut D.i2z).extBut hs₂.extBut D.i12.symm) ((hl2.extBut hs₁.extBut D.l2z).extBut hs₂.extBut D.l2i1) hy fun h₃ h2₃ hs₃ => wpAny_pure ?_)
  refine wpAny_pure (wpAny_pure ?_)
  have hsz : h₃.objs.size = s.heap.objs.size := by rw [hs₃.1, hs₂.1, hs₁.1]
  show wpAny _ _ (newTuple [x, y] >>= _) _ _ _
  refine wpAny_bind (wpAny_newTuple ?_)
  have hz₃ : IsZB h₃ z TI TO m true := hs₃.extBut _ _ D.i2z.symm (hs₂.extBut _ _ D.i1z.symm hz₁)
  have up : ∀ c o, c ≠ z → c ≠ i1 → c ≠ i2 → s.heap.get? c = some o → (h₃.push { cls := .type "tuple", data := .seq #[x, y] }).get? c = some o := fun c o c1 c3 c4 e =>
    Heap.get?_push_of_some _ (hs₃.extBut _ _ c4 (hs₂.extBut _ _ c3 (hs₁.extBut _ _ c1 e)))
  have hT : IsPair (h₃.push { cls := .type "tuple", data := .seq #[x, y] }) h₃.objs.size x y := Heap.get?_push_size _ rfl
  refine wpAny_pure ⟨_, rfl, ?_⟩
  show Q (.ref h₃.objs.size) _
  rw [hsz] at hT ⊢
  refine hQ _ (Heap.get?_push_of_some _ hz₃) ((h1₂.extBut hs₃.extBut D.i12).at fun o e => Heap.get?_push_of_some _ e) (h2₃.at fun o e => Heap.get?_push_of_some _ e) hT (by rw [Heap.size_push, hsz]) up
theorem zipB_next_end {z TI TO i1 i2 l1 l2 m : Addr} {f : Bool} {om : Obj} {k1 k2 : Nat} {xs ys : Array Value} {Q : Fin → Shared → Prop} (hh : A.handled = none) (D : ZipApart z TI TO i1 i2 l1 l2)
    (hz : IsZB s.heap z TI TO m f) (hm : s.heap.get? m = some om) (hTI : IsPair s.heap TI (.ref i1) (.ref i2))
    (h1 : s.heap.IsTupleIter i1 l1 k1) (h2 : s.heap.IsTupleIter i2 l2 k2) (hl1 : s.heap.IsTuple l1 xs) (hl2 : s.heap.IsTuple l2 ys) (hend : xs[k1]? = none ∨ ys[k2]? = none)
    (hE : ∀ h' e, (∀ c o, c ≠ z → c ≠ i1 → c ≠ i2 → s.heap.get? c = some o → h'.get? c = some o) → (∃ o, h'.get? e = some o ∧ o.cls = .type "StopIteration") → E (.ref e) { s with heap := h' }) :
    wpAny (model prog w) A (Builtin.«zip.__next__» ⟨[.ref z], []⟩) Q E s := by
  show wpAny _ _ (field (.ref z) 2 >>= _) _ _ _
  refine wpAny_bind (wpAny_field hz rfl (x := .bool false) rfl ?_)
  show wpAny _ _ (field (.ref z) 3 >>= _) _ _ _
  refine wpAny_bind (wpAny_field hz rfl (x := .ref TI) rfl ?_)
  refine wpAny_bind (wpAny_seqItems hTI rfl ?_)
  show wpAny _ _ (Builtin.SmallTypes.ownedTupleIsFree (.ref z) >>= _) _ _ _
  refine wpAny_bind (notFree hz hm fun h₁ hz₁ hs₁ => ?_)
  simp only [Bool.false_eq_true, if_false]
  refine wpAny_bind ?_
  rw [← Array.forIn_toList]
  show wpAny _ _ (forIn [Value.ref i1, Value.ref i2] _ _) _ _ _
  simp only [List.forIn_cons, List.forIn_nil]
  refine wpAny_bind (wpAny_bind (wpAny_holding ?_))
  show wpAny _ _ (Builtin.SmallTypes.nextOf (.ref i1) >>= _) _ _ _
  cases hx : xs[k1]? with
  | none =>
    refine wpAny_bind (nextOf_tuple_end hh (h1.extBut hs₁.extBut D.i1z) (hl1.extBut hs₁.extBut D.l1z) hx fun h₂ e hs₂ he => ?_)
    exact hE h₂ e (fun c o c1 c3 _ x => hs₂ _ _ c3 (hs₁.extBut _ _ c1 x)) he
  | some x =>
    have hy : ys[k2]? = none := by rcases hend with h | h; rw [hx] at h; cases h; exact h
    refine wpAny_bind (nextOf_tuple_item (h1.extBut hs₁.extBut D.i1z) (hl1.extBut hs₁.extBut D.l1z) hx fun h₂ h1₂ hs₂ => wpAny_pure ?_)
    refine wpAny_pure ?_
    refine wpAny_bind (wpAny_bind (wpAny_holding ?_))
    show wpAny _ _ (Builtin.SmallTypes.nextOf (.ref i2) >>= _) _ _ _
    refine wpAny_bind (nextOf_tuple_end hh ((h2.extBut hs₁.extBut D.i2z).extBut hs₂.extBut D.i12.symm) ((hl2.extBut hs₁.extBut D.l2z).extBut hs₂.extBut D.l2i1) hy fun h₃ e hs₃ he => ?_)
    exact hE h₃ e (fun c o c1 c3 c4 x => hs₃ _ _ c4 (hs₂.extBut _ _ c3 (hs₁.extBut _ _ c1 x))) he
theorem pyNext_zipB_item {z TI TO i1 i2 l1 l2 m : Addr} {f : Bool} {om : Obj} {k1 k2 : Nat} {xs ys : Array Value} {x y : Value} {Q : Option Value → Shared → Prop} (D : ZipApart z TI TO i1 i2 l1 l2)
    (hz : IsZB s.heap z TI TO m f) (hm : s.heap.get? m = some om) (hTI : IsPair s.heap TI (.ref i1) (.ref i2))
    (h1 : s.heap.IsTupleIter i1 l1 k1) (h2 : s.heap.IsTupleIter i2 l2 k2) (hl1 : s.heap.IsTuple l1 xs) (hl2 : s.heap.IsTuple l2 ys) (hx : xs[k1]? = some x) (hy : ys[k2]? = some y)
    (hQ : ∀ h', IsZB h' z TI TO m true → h'.IsTupleIter i1 l1 (k1 + 1) → h'.IsTupleIter i2 l2 (k2 + 1) → IsPair h' s.heap.objs.size x y → h'.objs.size = s.heap.objs.size + 1 →
      (∀ c o, c ≠ z → c ≠ i1 → c ≠ i2 → s.heap.get? c = some o → h'.get? c = some o) → Q (some (.ref s.heap.objs.size)) { s with heap := h' }) :
    wpAny (model prog w) A (pyNext (.ref z)) Q E s := by
  have hT : s.TypeIs (.ref z) "zip" := ⟨_, hz, rfl⟩
  unfold pyNext
  exact wpAny_bind (wpAny_attempt (wpAny_callSpecial?_slot (name := Str.ofString "__next__") hT F.slot_zip_next
    (wpAny_call_entry F.slot_zip_next hT F.entry_zip_next
      (zipB_next_item D hz hm hTI h1 h2 hl1 hl2 hx hy fun h' a1 a3 a4 a5 a6 a7 => wpAny_pure (hQ h' a1 a3 a4 a5 a6 a7)) (F.args_zip_next_1 _))))
theorem pyNext_zipB_end {z TI TO i1 i2 l1 l2 m : Addr} {f : Bool} {om : Obj} {k1 k2 : Nat} {xs ys : Array Value} {Q : Option Value → Shared → Prop} (hh : A.handled = none) (D : ZipApart z TI TO i1 i2 l1 l2)
    (hz : IsZB s.heap z TI TO m f) (hm : s.heap.get? m = some om) (hTI : IsPair s.heap TI (.ref i1) (.ref i2))
    (h1 : s.heap.IsTupleIter i1 l1 k1) (h2 : s.heap.IsTupleIter i2 l2 k2) (hl1 : s.heap.IsTuple l1 xs) (hl2 : s.heap.IsTuple l2 ys) (hend : xs[k1]? = none ∨ ys[k2]? = none)
    (hQ : ∀ h', (∀ c o, c ≠ z → c ≠ i1 → c ≠ i2 → s.heap.get? c = some o → h'.get? c = some o) → Q none { s with heap := h' }) : wpAny (model prog w) A (pyNext (.ref z)) Q E s := by
  have hT : s.TypeIs (.ref z) "zip" := ⟨_, hz, rfl⟩
  unfold pyNext
  refine wpAny_bind (wpAny_attempt (wpAny_callSpecial?_slot (name := Str.ofString "__next__") hT F.slot_zip_next
    (wpAny_call_entry F.slot_zip_next hT F.entry_zip_next (zipB_next_end hh D hz hm hTI h1 h2 hl1 hl2 hend fun h' e hk he => ?_) (F.args_zip_next_1 _))))
  obtain ⟨o, ho, hc⟩ := he
  refine wpAny_bind (wpAny_isInstance (T := "StopIteration") (b := true) ⟨o, ho, hc⟩ isSubtype_stop ?_)
  exact wpAny_pure (hQ _ hk)
/-! ### list(zip(t, u)) -/
/-- the state of a zip of two tuples behind i pairs, that stand in acc -/
def ZSt (z TI TO i1 i2 l1 l2 S : Addr) (xs ys : Array Value) (i : Nat) (acc : Array Value) (h : Heap) : Prop :=
  IsPair h TI (.ref i1) (.ref i2) ∧ h.IsTupleIter i1 l1 i ∧ h.IsTupleIter i2 l2 i ∧ h.IsTuple l1 xs ∧ h.IsTuple l2 ys ∧ acc.size = i ∧
  ((i = 0 ∧ IsZip h z TI TO .none ∧ ∃ a b, IsPair h TO a b) ∨ (∃ m f, IsZB h z TI TO m f ∧ m ∉ [z, TI, TO, i1, i2, S] ∧ ∃ a b, IsPair h m a b)) ∧
  (∀ j, j < i → ∃ T x y, acc[j]? = some (.ref T) ∧ xs[j]? = some x ∧ ys[j]? = some y ∧ T ∉ [z, TI, TO, i1, i2, S] ∧ IsPair h T x y ∧ z < T) ∧ ∃ o, h.get? TO = some o
theorem ZSt.frame {z TI TO i1 i2 l1 l2 S : Addr} {xs ys : Array Value} {i : Nat} {acc : Array Value} {h h' : Heap} (hne : S ∉ [z, TI, TO, i1, i2, l1, l2]) (st : ZSt z TI TO i1 i2 l1 l2 S xs ys i acc h) (k : ∀ b o, b ≠ S → h.get? b = some o → h'.get? b = some o) : ZSt z TI TO i1 i2 l1 l2 S xs ys i acc h' := by
  obtain ⟨s1, s2, s3, s4, s5, s6, s7, s8, oT, s9⟩ := st
  simp at hne
  obtain ⟨n1, n2, n3, n4, n5, n6, n7⟩ := hne
  refine ⟨k _ _ (Ne.symm n2) s1, s2.at fun o e => k _ o (Ne.symm n4) e, s3.at fun o e => k _ o (Ne.symm n5) e, ?_, ?_, s6, ?_, fun j hj => ?_, oT, k _ _ (Ne.symm n3) s9⟩
  · obtain ⟨o, ho, r⟩ := s4; exact ⟨o, k _ _ (Ne.symm n6) ho, r⟩
  · obtain ⟨o, ho, r⟩ := s5; exact ⟨o, k _ _ (Ne.symm n7) ho, r⟩
  · rcases s7 with ⟨q1, q2, a, b, q3⟩ | ⟨m, f, q1, q2, a, b, q3⟩
    · exact .inl ⟨q1, k _ _ (Ne.symm n1) q2, a, b, k _ _ (Ne.symm n3) q3⟩
    · exact .inr ⟨m, f, k _ _ (Ne.symm n1) q1, q2, a, b, k _ _ (fun e => q2 (by simp [e])) q3⟩
  · obtain ⟨T, x, y, q1, q2, q3, q4, q5⟩ := s8 j hj
    exact ⟨T, x, y, q1, q2, q3, q4, k _ _ (fun e => q4 (by simp [e])) q5.1, q5.2⟩
theorem ZSt.item {z TI TO i1 i2 l1 l2 S : Addr} {xs ys : Array Value} {i : Nat} {acc : Array Value} {Q : Option Value → Shared → Prop} (D : ZipApart z TI TO i1 i2 l1 l2) (hne : S ∉ [z, TI, TO, i1, i2, l1, l2]) (hTl : l1 ≠ TI ∧ l2 ≠ TI)
    (st : ZSt z TI TO i1 i2 l1 l2 S xs ys i acc s.heap) (hi : i < min xs.size ys.size) (hS : S < s.heap.objs.size)
    (hQ : ∀ T h', ZSt z TI TO i1 i2 l1 l2 S xs ys (i + 1) (acc.push (.ref T)) h' → (∀ b o, b ∉ [z, TI, TO, i1, i2] → s.heap.get? b = some o → h'.get? b = some o) → s.heap.objs.size ≤ h'.objs.size → Q (some (.ref T)) { s with heap := h' }) :
    wpAny (model prog w) A (pyNext (.ref z)) Q E s := by
  obtain ⟨s1, s2, s3, s4, s5, s6, s7, s8, oT, s9⟩ := st
  have hx : xs[i]? = some xs[i] := Array.getElem?_eq_getElem (by omega)
  have hy : ys[i]? = some ys[i] := Array.getElem?_eq_getElem (by omega)
  have hi1 : i1 < s.heap.objs.size := by obtain ⟨o, ho, _⟩ := s2; exact Heap.lt_size ho
  have hi2 : i2 < s.heap.objs.size := by obtain ⟨o, ho, _⟩ := s3; exact Heap.lt_size ho
  have hTI := Heap.lt_size s1
  have hz : z < s.heap.objs.size := by
    rcases s7 with ⟨_, q2, _⟩ | ⟨m, f, q1, _⟩
    · exact Heap.lt_size q2
    · exact Heap.lt_size q1
  have hTO := Heap.lt_size s9
  have next : ∀ h', (∃ o, h'.get? TO = some o) → (∃ m f, IsZB h' z TI TO m f ∧ m ∉ [z, TI, TO, i1, i2, S] ∧ ∃ a b, IsPair h' m a b) → h'.IsTupleIter i1 l1 (i + 1) → h'.IsTupleIter i2 l2 (i + 1) → IsPair h' s.heap.objs.size xs[i] ys[i] → h'.objs.size = s.heap.objs.size + 1 →
      (∀ c o, c ≠ z → c ≠ TO → c ≠ i1 → c ≠ i2 → s.heap.get? c = some o → h'.get? c = some o) → Q (some (.ref s.heap.objs.size)) { s with heap := h' } := fun h' hoT hm a1 a2 hT hsz hk => by
    have hnew : s.heap.objs.size ∉ [z, TI, TO, i1, i2, S] := by
      simp
      exact ⟨Nat.ne_of_gt hz, Nat.ne_of_gt hTI, Nat.ne_of_gt hTO, Nat.ne_of_gt hi1, Nat.ne_of_gt hi2, Nat.ne_of_gt hS⟩
    refine hQ _ h' ⟨hk _ _ D.TIz D.TITO D.TIi1 D.TIi2 s1, a1, a2, ?_, ?_, by rw [Array.size_push, s6], .inr hm, fun j hj => ?_, hoT⟩ (fun b o hb e => ?_) (by omega)
    · obtain ⟨o, ho, r⟩ := s4; exact ⟨o, hk _ _ D.l1z D.l1TO D.l1i1 D.l1i2 ho, r⟩
    · obtain ⟨o, ho, r⟩ := s5; exact ⟨o, hk _ _ D.l2z D.l2TO D.l2i1 D.l2i2 ho, r⟩
    · by_cases q : j = i
      · subst q
        exact ⟨_, _, _, by rw [← s6]; exact Array.getElem?_push_size, hx, hy, hnew, hT, hz⟩
      · obtain ⟨T, x, y, q1, q2, q3, q4, q5⟩ := s8 j (by omega)
        have q4' := q4
        simp at q4'
        refine ⟨T, x, y, ?_, q2, q3, q4, hk _ _ q4'.1 q4'.2.2.1 q4'.2.2.2.1 q4'.2.2.2.2.1 q5.1, q5.2⟩
        rw [Array.getElem?_push_lt (by omega)]
        rw [Array.getElem?_eq_getElem (by omega)] at q1
        exact q1
    · simp at hb
      exact hk _ _ hb.1 hb.2.2.1 hb.2.2.2.1 hb.2.2.2.2 e
  rcases s7 with ⟨_, q2, a, b, q3⟩ | ⟨m, f, q1, q2, a, b, q3⟩
  · refine pyNext_zipT_item D q2 s1 q3 s2 s3 s4 s5 hx hy fun h' b1 b2 b3 b4 b5 b6 b7 => next h' ⟨_, b2⟩ ⟨s.heap.objs.size, false, b1, ?_, _, _, b5⟩ b3 b4 b5 b6 b7
    simp
    exact ⟨Nat.ne_of_gt hz, Nat.ne_of_gt hTI, Nat.ne_of_gt hTO, Nat.ne_of_gt hi1, Nat.ne_of_gt hi2, Nat.ne_of_gt hS⟩
  · have q2' := q2
    simp at q2'
    refine pyNext_zipB_item D q1 q3 s1 s2 s3 s4 s5 hx hy fun h' b1 b3 b4 b5 b6 b7 => next h' ⟨_, b7 _ _ D.TOz D.TOi1 D.TOi2 s9⟩ ⟨m, true, b1, q2, a, b, b7 _ _ q2'.1 q2'.2.2.2.1 q2'.2.2.2.2.1 q3⟩ b3 b4 b5 b6 fun c o c1 c2 c3 c4 e => b7 c o c1 c3 c4 e
theorem ZSt.done {z TI TO i1 i2 l1 l2 S : Addr} {xs ys : Array Value} {i : Nat} {acc : Array Value} {Q : Option Value → Shared → Prop} (hh : A.handled = none) (D : ZipApart z TI TO i1 i2 l1 l2)
    (st : ZSt z TI TO i1 i2 l1 l2 S xs ys i acc s.heap) (hi : min xs.size ys.size ≤ i) 
    (hQ : ∀ h', (∀ b o, b ∉ [z, TI, TO, i1, i2] → s.heap.get? b = some o → h'.get? b = some o) → Q none { s with heap := h' }) :
    wpAny (model prog w) A (pyNext (.ref z)) Q E s := by
  obtain ⟨s1, s2, s3, s4, s5, s6, s7, s8, oT, s9⟩ := st
  have hend : xs[i]? = none ∨ ys[i]? = none := by
    by_cases q : xs.size ≤ i
    · exact .inl (Array.getElem?_eq_none q)
    · exact .inr (Array.getElem?_eq_none (by omega))
  rcases s7 with ⟨_, q2, a, b, q3⟩ | ⟨m, f, q1, q2, a, b, q3⟩
  · refine pyNext_zipT_end hh D q2 s1 q3 s2 s3 s4 s5 hend fun h' k => hQ h' fun b o hb e => ?_
    simp at hb
    exact k _ _ hb.1 hb.2.2.1 hb.2.2.2.1 hb.2.2.2.2 e
  · refine pyNext_zipB_end hh D q1 q3 s1 s2 s3 s4 s5 hend fun h' k => hQ h' fun b o hb e => ?_
    simp at hb
    exact k _ _ hb.1 hb.2.2.2.1 hb.2.2.2.2 e
/-- the loop that fills the list -/
theorem zip_loop {R : Result → Shared → Prop} {z TI TO i1 i2 l1 l2 S : Addr} {xs ys : Array Value} {n : Nat} (hh : A.in1.handled = none) (D : ZipApart z TI TO i1 i2 l1 l2) (hne : S ∉ [z, TI, TO, i1, i2, l1, l2]) (hTl : l1 ≠ TI ∧ l2 ≠ TI)
    (hn : n = min xs.size ys.size) (hsz : n ≤ sizeLine) (res : Value) :
    ∀ (k i : Nat) (s : Shared) (acc : Array Value) (c : Nat), n - i = k → i ≤ n → ZSt z TI TO i1 i2 l1 l2 S xs ys i acc s.heap → s.heap.get? S = some { cls := .type "list", dict := none, data := .seq acc c, slots := #[] } →
    (∀ h' acc' c', (∀ b o, b ∉ [z, TI, TO, i1, i2, S] → s.heap.get? b = some o → h'.get? b = some o) → h'.get? S = some { cls := .type "list", dict := none, data := .seq acc' c', slots := #[] } →
      acc'.size = n → (∀ j, j < n → ∃ T x y, acc'[j]? = some (.ref T) ∧ xs[j]? = some x ∧ ys[j]? = some y ∧ IsPair h' T x y ∧ z < T) → R (.ok (.ret res)) { s with heap := h' }) →
    codeAny (model prog w) A (.builtin "list.extend.loop" ⟨[.ref S, .ref z, res], []⟩) R s := by
  intro k
  induction k with
  | zero =>
    intro i s acc c hk hi hst hS hR
    have hin : i = n := by omega
    subst hin
    refine codeAny_builtin F.entry_extend_loop ?_
    rw [Around.under_plainId F.plain_extend_loop _]
    show wpAny _ A.in1 (pyNext (.ref z) >>= _) _ _ s
    refine wpAny_bind (ZSt.done hh D hst (by omega) fun h' kk => ?_)
    have hne' := hne
    simp at hne'
    refine wpAny_pure (hR h' acc c (fun b o hb e => kk b o (fun z => hb (by simp at z ⊢; rcases z with z | z | z | z | z <;> simp [z])) e) (kk _ _ (by simp [hne'.1, hne'.2.1, hne'.2.2.1, hne'.2.2.2.1, hne'.2.2.2.2.1]) hS) hst.2.2.2.2.2.1 fun j hj => ?_)
    obtain ⟨T, x, y, q1, q2, q3, q4, q5⟩ := hst.2.2.2.2.2.2.2.1 j hj
    exact ⟨T, x, y, q1, q2, q3, kk _ _ (fun z => q4 (by simp at z ⊢; rcases z with z | z | z | z | z <;> simp [z])) q5.1, q5.2⟩
  | succ k ih =>
    intro i s acc c hk hi hst hS hR
    have hlt : i < n := by omega
    refine codeAny_builtin F.entry_extend_loop ?_
    rw [Around.under_plainId F.plain_extend_loop _]
    show wpAny _ A.in1 (pyNext (.ref z) >>= _) _ _ s
    have hne' := hne
    simp at hne'
    refine wpAny_bind (ZSt.item D hne hTl hst (by omega) (Heap.lt_size hS) fun T h' hst' kk hsz' => ?_)
    have hS' : h'.get? S = some { cls := .type "list", dict := none, data := .seq acc c, slots := #[] } := kk _ _ (by simp [hne'.1, hne'.2.1, hne'.2.2.1, hne'.2.2.2.1, hne'.2.2.2.2.1]) hS
    show wpAny _ A.in1 (updateSeq S (·.push (.ref T)) >>= _) _ _ _
    refine wpAny_bind ?_
    have hac : acc.size = i := hst.2.2.2.2.2.1
    refine wpAny_updateSeq (s := { s with heap := h' }) hS' rfl (wpAny_pure ⟨plainId_quiet F.plain_extend_loop _, ih (i + 1) _ (acc.push (.ref T)) _ (by omega) hlt (ZSt.frame hne hst' fun b o hb e => ?_) (Heap.get?_update_self _ hS' rfl) fun h'' acc' c' k'' hS'' hsz'' hall => ?_⟩)
      (by rw [hac]; omega) (by show (acc.push (.ref T)).size ≤ sizeLine + 1; rw [Array.size_push, hac]; omega)
    · exact (Heap.get?_update_other _ _ (Ne.symm hb)).trans e
    · refine hR h'' acc' c' (fun b o hb e => ?_) hS'' hsz'' hall
      have hb' := hb
      simp at hb'
      refine k'' b o hb ((Heap.get?_update_other _ _ (fun h : S = b => hb (by simp [h]))).trans (kk b o (by simp [hb'.1, hb'.2.1, hb'.2.2.1, hb'.2.2.2.1, hb'.2.2.2.2.1]) e))
end
end MiZ

namespace MiZ
open PySem RZ
open PySem.Sem (wp)
theorem zip_no_len : typeLookup (.type "zip") "__len__" = pure none := by rw [typeLookup_type, builtinLookup_eq_fast]; kernel_rfl
theorem zip_no_hint : typeLookup (.type "zip") "__length_hint__" = pure none := by rw [typeLookup_type, builtinLookup_eq_fast]; kernel_rfl
section
variable {prog : Program} {w : World} {A : Around} {s : Shared} {R : Result → Shared → Prop}
theorem extend_zip {z TI TO i1 i2 l1 l2 S : Addr} {xs ys : Array Value} {n : Nat} (hh : A.in1.handled = none) (D : ZipApart z TI TO i1 i2 l1 l2) (hne : S ∉ [z, TI, TO, i1, i2, l1, l2]) (hTl : l1 ≠ TI ∧ l2 ≠ TI)
    (hn : n = min xs.size ys.size) (hsz : n ≤ sizeLine) (res : Value) (c₀ : Nat) (hst : ZSt z TI TO i1 i2 l1 l2 S xs ys 0 #[] s.heap) (hzt : s.TypeIs (.ref z) "zip") (hz0 : IsZip s.heap z TI TO .none)
    (hS : s.heap.get? S = some { cls := .type "list", data := .seq #[] c₀ })
    (hR : ∀ h' acc' c', (∀ b o, b ∉ [z, TI, TO, i1, i2, S] → s.heap.get? b = some o → h'.get? b = some o) → h'.get? S = some { cls := .type "list", dict := none, data := .seq acc' c', slots := #[] } →
      acc'.size = n → (∀ j, j < n → ∃ T x y, acc'[j]? = some (.ref T) ∧ xs[j]? = some x ∧ ys[j]? = some y ∧ IsPair h' T x y ∧ z < T) → R (.ok (.ret res)) { s with heap := h' }) :
    wpAny (model prog w) A.in1 (Builtin.List.listExtendWith (.ref S) (.ref z) res)
      (fun fin s' => match fin with | .done f => R (.ok f) s' | .again c' => c'.quiet = true ∧ codeAny (model prog w) A c' R s') (fun e s' => R (.error e) s') s := by
  have hSI : S ≠ z := fun e => hne (by simp [e])
  unfold Builtin.List.listExtendWith
  refine wpAny_bind (wpAny_typeOf hzt ?_)
  have h1 : Builtin.List.listSameRef (.ref S) (.ref z) = false := by simp [Builtin.List.listSameRef, hSI]
  have h2 : (Value.type "zip" == Value.type "list") = false := by decide
  have h3 : (Value.type "zip" == Value.type "tuple") = false := by decide
  simp only [h1, h2, h3, Bool.or_false, Bool.false_eq_true, if_false]
  refine wpAny_bind (wpAny_pyIter_zip hz0 ?_)
  refine wpAny_bind (wpAny_holding ?_)
  unfold Builtin.List.listLengthHint
  refine wpAny_bind (wpAny_specialOf hzt zip_no_len ?_)
  show wpAny _ A.in1 (specialOf (Value.ref z) (Str.ofString "__length_hint__") >>= _) _ _ _
  refine wpAny_bind (wpAny_specialOf hzt zip_no_hint ?_)
  refine wpAny_pure ?_
  show wpAny _ A.in1 (rule "list.extend.makes-room" >>= fun _ => Builtin.List.listTouch (.ref S) >>= fun _ =>
    again (.builtin "list.extend.loop" ⟨[.ref S, .ref z, res], []⟩)) _ _ _
  refine wpAny_bind (wpAny_rule ?_)
  refine wpAny_bind ?_
  show wpAny _ A.in1 (updateSeq S (·.push .none) >>= fun _ => updateSeq S (·.pop)) _ _ _
  refine wpAny_bind (wpAny_updateSeq hS rfl ?_)
  have hS₂ := Heap.get?_update_self (Obj.mapSeq (·.push Value.none)) hS rfl
  refine wpAny_updateSeq (hz := by seq_fits) hS₂ rfl ?_
  have hS₃ := Heap.get?_update_self (Obj.mapSeq (·.pop)) hS₂ rfl
  have oth : ∀ b o, b ≠ S → s.heap.get? b = some o → ((s.heap.update S (Obj.mapSeq (·.push Value.none))).update S (Obj.mapSeq (·.pop))).get? b = some o :=
    fun b o hb e => (Heap.get?_update_other _ _ (Ne.symm hb)).trans ((Heap.get?_update_other _ _ (Ne.symm hb)).trans e)
  refine wpAny_pure ⟨plainId_quiet F.plain_extend_loop _, zip_loop hh D hne hTl hn hsz res n 0 _ _ _ rfl (Nat.zero_le _) (ZSt.frame hne hst oth) hS₃ fun h' acc' c' k hS' hsz' hall => ?_⟩
  exact hR h' acc' c' (fun b o hb e => k b o hb (oth b o (fun h => hb (by simp [h])) e)) hS' hsz' hall
theorem list_init_zip {z TI TO i1 i2 l1 l2 S : Addr} {xs ys : Array Value} {n : Nat} (hh : A.in1.handled = none) (D : ZipApart z TI TO i1 i2 l1 l2) (hne : S ∉ [z, TI, TO, i1, i2, l1, l2]) (hTl : l1 ≠ TI ∧ l2 ≠ TI)
    (hn : n = min xs.size ys.size) (hsz : n ≤ sizeLine) (hst : ZSt z TI TO i1 i2 l1 l2 S xs ys 0 #[] s.heap) (hz0 : IsZip s.heap z TI TO .none)
    (hS : s.heap.get? S = some { cls := .type "list", data := .seq #[] })
    (hR : ∀ h' acc' c', (∀ b o, b ∉ [z, TI, TO, i1, i2, S] → s.heap.get? b = some o → h'.get? b = some o) → h'.get? S = some { cls := .type "list", dict := none, data := .seq acc' c', slots := #[] } →
      acc'.size = n → (∀ j, j < n → ∃ T x y, acc'[j]? = some (.ref T) ∧ xs[j]? = some x ∧ ys[j]? = some y ∧ IsPair h' T x y ∧ z < T) → R (.ok (.ret .none)) { s with heap := h' }) :
    wpAny (model prog w) A.in1 (Builtin.«list.__init__» ⟨[.ref S, .ref z], []⟩)
      (fun fin s' => match fin with | .done f => R (.ok f) s' | .again c' => c'.quiet = true ∧ codeAny (model prog w) A c' R s') (fun e s' => R (.error e) s') s := by
  show wpAny _ A.in1 (do let old ← Builtin.List.listItems (.ref S); Builtin.List.listUpdate (.ref S) (fun _ => #[]); letGo old.toList.reverse; Builtin.List.listExtendWith (.ref S) (.ref z) .none) _ _ s
  refine wpAny_bind ?_
  unfold Builtin.List.listItems
  refine wpAny_bind (wpAny_seqItems hS rfl (wpAny_pure ?_))
  show wpAny _ A.in1 (updateSeq S (fun _ => #[]) >>= fun _ => letGo (#[] : Array Value).toList.reverse >>= fun _ => Builtin.List.listExtendWith (.ref S) (.ref z) .none) _ _ s
  refine wpAny_bind (wpAny_updateSeq hS rfl ?_)
  have hS₂ := Heap.get?_update_self (Obj.mapSeq (fun _ => (#[] : Array Value))) hS rfl
  have oth : ∀ b o, b ≠ S → s.heap.get? b = some o → (s.heap.update S (Obj.mapSeq (fun _ => (#[] : Array Value)))).get? b = some o :=
    fun b o hb e => (Heap.get?_update_other _ _ (Ne.symm hb)).trans e
  refine wpAny_bind (wpAny_letGo ?_)
  have hzS : z ≠ S := fun e => hne (by simp [e])
  have hz1 : IsZip (s.heap.update S (Obj.mapSeq (fun _ => (#[] : Array Value)))) z TI TO .none := oth _ _ hzS hz0
  exact extend_zip hh D hne hTl hn hsz .none _ (ZSt.frame hne hst oth) ⟨_, hz1, rfl⟩ hz1 hS₂ fun h' acc' c' k hS' hsz' hall => hR h' acc' c' (fun b o hb e => k b o hb (oth b o (fun h => hb (by simp [h])) e)) hS' hsz' hall
end
section
variable {prog : Program} {w : World} {A : Around} {E : Value → Shared → Prop} {s : Shared}
theorem call_list_zip {z TI TO i1 i2 l1 l2 : Addr} {xs ys : Array Value} {n : Nat} {Q : Value → Shared → Prop} (hh : A.handled = none) (D : ZipApart z TI TO i1 i2 l1 l2) (hTl : l1 ≠ TI ∧ l2 ≠ TI)
    (hn : n = min xs.size ys.size) (hsz : n ≤ sizeLine) (hz0 : IsZip s.heap z TI TO .none) (hTI : IsPair s.heap TI (.ref i1) (.ref i2)) (hTO : ∃ a b, IsPair s.heap TO a b)
    (h1 : s.heap.IsTupleIter i1 l1 0) (h2 : s.heap.IsTupleIter i2 l2 0) (hl1 : s.heap.IsTuple l1 xs) (hl2 : s.heap.IsTuple l2 ys)
    (hQ : ∀ h' acc' c', (∀ b o, b ∉ [z, TI, TO, i1, i2] → s.heap.get? b = some o → h'.get? b = some o) → h'.get? s.heap.objs.size = some { cls := .type "list", dict := none, data := .seq acc' c', slots := #[] } →
      acc'.size = n → (∀ j, j < n → ∃ T x y, acc'[j]? = some (.ref T) ∧ xs[j]? = some x ∧ ys[j]? = some y ∧ IsPair h' T x y ∧ z < T) → Q (.ref s.heap.objs.size) { s with heap := h' }) :
    wpAny (model prog w) A (call (.type "list") [.ref z]) Q E s := by
  obtain ⟨a, b, hTO⟩ := hTO
  have lt : ∀ {c o}, s.heap.get? c = some o → c ≠ s.heap.objs.size := fun e => Nat.ne_of_lt (Heap.lt_size e)
  have hne : s.heap.objs.size ∉ [z, TI, TO, i1, i2, l1, l2] := by
    obtain ⟨_, e1, _⟩ := id h1
    obtain ⟨_, e2, _⟩ := id h2
    obtain ⟨_, e3, _⟩ := id hl1
    obtain ⟨_, e4, _⟩ := id hl2
    simp
    exact ⟨(lt hz0).symm, (lt hTI).symm, (lt hTO).symm, (lt e1).symm, (lt e2).symm, (lt e3).symm, (lt e4).symm⟩
  have up : ∀ b o, s.heap.get? b = some o → (s.heap.push { cls := .type "list", data := .seq #[] }).get? b = some o := fun b o e => Heap.get?_push_of_some _ e
  refine callType_codes (Q₁ := fun obj s₁ => obj = .ref s.heap.objs.size ∧ s₁ = { s with heap := s.heap.push { cls := .type "list", data := .seq #[] } }) F.called_list (F.typeCall_list_1 _) F.entry_list_init
    (code_list_new _ ⟨rfl, rfl⟩) fun obj s₁ h₁ => ?_
  obtain ⟨rfl, rfl⟩ := h₁
  have hS : (s.heap.push { cls := .type "list", data := .seq #[] }).get? s.heap.objs.size = some { cls := .type "list", data := .seq #[] } := Heap.get?_push_size _ rfl
  refine ⟨⟨_, hS, rfl⟩, F.args_list_init_2 _ _, list_init_zip (s := { s with heap := s.heap.push { cls := .type "list", data := .seq #[] } }) (by first | exact hh | (show A.in1.in1.handled = none; exact hh)) D hne hTl hn hsz ?_ (up _ _ hz0) hS fun h' acc' c' k hS' hsz' hall => ?_⟩
  · refine ⟨up _ _ hTI, h1.at fun o e => up _ o e, h2.at fun o e => up _ o e, ?_, ?_, rfl, .inl ⟨rfl, up _ _ hz0, a, b, up _ _ hTO⟩, fun j hj => absurd hj (Nat.not_lt_zero _), _, up _ _ hTO⟩
    · obtain ⟨o, ho, r⟩ := hl1; exact ⟨o, up _ _ ho, r⟩
    · obtain ⟨o, ho, r⟩ := hl2; exact ⟨o, up _ _ ho, r⟩
  · exact ⟨rfl, hQ h' acc' c' (fun b o hb e => k b o (fun z => by
      simp at z hb
      rcases z with z | z | z | z | z | z
      · exact hb.1 z
      · exact hb.2.1 z
      · exact hb.2.2.1 z
      · exact hb.2.2.2.1 z
      · exact hb.2.2.2.2 z
      · exact lt e z) (up _ _ e)) hS' hsz' hall⟩
end
end MiZ

namespace Mi
open PySem PySem.Spec PyProof.Rows L2
/-! ### tuples without a dict of their own: tuple(l) of tuples; reading one as a plain tuple; index; in -/
def D.un : D → D
  | .ftp l => .tup l
  | d => d
theorem Rp.un {K : PySem.W.Frag} {ρ : Rho} {H : Hp} {d : D} {v : V} (h : Rp K ρ H d v) : Rp K ρ H d.un v := by
  cases d with
  | ftp l => obtain ⟨p, vs, e, h1, h2⟩ := h; exact ⟨p, vs, e, h1.tls, h2⟩
  | _ => exact h
def mU (m : TM) : TM := fun env S => (m env S).bind fun d S1 => .ok d.un S1
theorem d_U {X : Cx} {W : WX} {e : Expr} {m : TM} (h : DE X W e m) : DE X W e (mU m) :=
  ⟨PE.imp h.p fun σ H Q ⟨ρ, S, env, hS, hE, h⟩ => Post.bindK hS hE h fun x H1 ρ1 S1 d hS1 hE1 st1 r1 h1 => h1 ρ1 H1 x hS1 .refl r1.un⟩
def D.isTup : D → Bool
  | .tup _ => true
  | _ => false
def tupleFD : GL := fun S ds => match ds with
  | [d] => match lstD S d with
    | some l => if l.all D.isTup = true then some (.ftp l) else none
    | none => none
  | _ => none
theorem rps_noty {K : PySem.W.Frag} {ρ : Rho} {H : Hp} : ∀ {l : List D} {vs : List V}, Rps K ρ H l vs → l.all D.isTup = true → ∀ n, V.ty n ∉ vs
  | [], _, h, _, n => by cases h; simp
  | d :: l, _, h, a, n => by
    obtain ⟨v, r, rfl, h1, h2⟩ := h
    rw [List.all_cons, Bool.and_eq_true] at a
    have ih := rps_noty h2 a.2 n
    cases d with
    | tup l => obtain ⟨p, vs, rfl, _⟩ := h1; simp [ih]
    | _ => exact absurd a.1 (by simp [D.isTup])
section
variable {X : Cx}
theorem cD_tupleF : CallR X (.type "tuple") (rL X.K tupleFD) := by
  intro pins s σ H xs us Q I r ⟨ρ, S, ds, z, hS, rd, e, q⟩
  unfold tupleFD at e
  split at e
  · rename_i d
    cases hl : lstD S d with
    | none => rw [hl] at e; cases e
    | some l =>
      rw [hl] at e
      simp only at e
      split at e
      · rename_i ht
        cases e
        obtain ⟨v, rfl, h1⟩ := rd.dest1
        obtain ⟨p, vs, rfl, h2, h3⟩ := der_lst hS h1 hl
        obtain ⟨u, rfl, rx⟩ := vals1 r
        cases rx
        obtain ⟨its, r', pl, hz⟩ := I.list h2
        have hlen := r'.length
        refine call_tuple_list pl.isList (fun h' kp => ?_) (by simp only [List.size_toArray] <;> omega)
        have I1 : Inv X pins σ H { s with heap := h' } := I.kept (t' := s.toks) kp
        have hn := I1.hok.fresh (Nat.le_refl _)
        have I2 : Inv X pins σ (upd H h'.objs.size (.frz { cls := .type "tuple", data := .seq its.toArray } (.tup vs))) { s with heap := h'.push { cls := .type "tuple", data := .seq its.toArray } } :=
          I1.laid (t' := s.toks) (fun b o e => Heap.get?_push_of_some _ e) (Nat.le_refl _) (show ObjOk X.prog X.w _ _ _ (.frz _ (.tup vs)) from ⟨Heap.get?_push_size _ rfl, hz, its, r', IsTup.new _ _⟩)
        exact ⟨.ref h'.objs.size, _, I2, rfl, q ρ _ _ (hS.alloc hn) (.alloc hn) ⟨_, vs, rfl, ⟨_, upd_same, rfl, rps_noty h3 ht⟩, Rps.step hS (.alloc hn) l vs h3⟩⟩
      · cases e
  · cases e
/-! in, for tuples of data -/
def inTB (a b : D) : Option Bool := match b with
  | .tup l => if SeqAt.shaped a.py = true ∧ SeqAt.shaped (.tuple (D.pys l)) = true then some ((D.pys l).any fun z => PyData.eqv z a.py) else none
  | _ => none
def inTD : G2 := fun _ a b => (inTB a b).map .bl
def ninTD : G2 := fun _ a b => (inTB a b).map fun c => .bl (!c)
theorem inTB_ok {pins : List (Addr × Obj)} {s : Shared} {σ : L2.St} {H : Hp} {x y : V} {v u : Value} {Q : VK} {ρ : Rho} {S : Sto} {a b : D} {c : Bool} (hu : X.A.units + 65 < cLine) (I : Inv X pins σ H s) (rx : RelV x v) (ry : RelV y u)
    (hS : SOk X.K ρ S H) (ra : Rp X.K ρ H a x) (rb : Rp X.K ρ H b y) (e : inTB a b = some c) :
    (Q (.bl c) H → wpAny (model X.prog X.w) X.A (compareOp .In v u) (EP X pins σ Q) X.xe s) ∧ (Q (.bl (!c)) H → wpAny (model X.prog X.w) X.A (compareOp .NotIn v u) (EP X pins σ Q) X.xe s) := by
  unfold inTB at e
  split at e
  · rename_i l
    split at e
    · rename_i hc
      cases e
      have cb : (D.tup l).py.canLay0 = true := SeqAt.canLay_of_shaped hc.2
      obtain ⟨as, r1⟩ := Dp.reads I _ x v (ra.dp _ _ (SeqAt.canLay_of_shaped hc.1)) rx
      obtain ⟨bs, r2⟩ := Dp.reads I _ y u (rb.dp _ _ cb) ry
      have cl : PyData.canLayAll0 (D.pys l) = true := by simpa [D.py, PyData.canLay0] using cb
      exact ⟨fun q => SeqAt.in_tuple_reads r2 r1 cl (SeqAt.canLay_of_shaped hc.1) (room_in_shaped hc.1 hu) ⟨.bl _, H, I, rfl, q⟩,
        fun q => SeqAt.notIn_tuple_reads r2 r1 cl (SeqAt.canLay_of_shaped hc.1) (room_in_shaped hc.1 hu) ⟨.bl _, H, I, rfl, q⟩⟩
    · cases e
  · cases e
theorem opD_inT (hu : X.A.units + 65 < cLine) : OpR X (compareOp .In) (rD X.K inTD) := by
  intro pins s σ H x y v u Q I rx ry ⟨ρ, S, a, b, z, hS, ra, rb, e, q⟩
  unfold inTD at e
  cases hc : inTB a b with
  | none => rw [hc] at e; cases e
  | some c =>
    rw [hc] at e; cases e
    exact (inTB_ok (Q := Q) hu I rx ry hS ra rb hc).1 (q ρ H _ hS .refl rfl)
theorem opD_ninT (hu : X.A.units + 65 < cLine) : OpR X (compareOp .NotIn) (rD X.K ninTD) := by
  intro pins s σ H x y v u Q I rx ry ⟨ρ, S, a, b, z, hS, ra, rb, e, q⟩
  unfold ninTD at e
  cases hc : inTB a b with
  | none => rw [hc] at e; cases e
  | some c =>
    rw [hc] at e; cases e
    exact (inTB_ok (Q := Q) hu I rx ry hS ra rb hc).2 (q ρ H _ hS .refl rfl)
/-! index of a tuple without a dict of its own -/
def idxTD : D → List D → Option D := fun o ds => match o, ds with
  | .ftp l, [d] => if SeqAt.shaped d.py = true ∧ SeqAt.shaped (.tuple (D.pys l)) = true then ((D.pys l).findIdx? fun z => PyData.eqv z d.py).map fun j => .int (j : Nat) else none
  | _, _ => none
def D.isF : D → Bool
  | .ftp _ => true
  | _ => false
def mIdxT (m : TM) (n : AM) : TM := fun env S => (m env S).bind fun o S1 => if o.isF = true then (n env S1).bind fun ds S2 => match idxTD o ds with
  | some z => .ok z S2
  | none => .bad
  else .bad
theorem d_idxT {W : WX} {pos apos : Pos} {e o : Expr} {es : List Expr} {mo : TM} {n : AM} (hu : X.A.units + 65 < cLine) (ho : DE X W o mo) (ha : DA X W (e :: es) n)
    (hbase : attributeBase o "index" X.env (eval o X.env) = eval o X.env := by rfl)
    (hfew : ((backTo pos (starEach (e :: es) X.env)).all (fun x => !x.1) && (backToKw pos (keywordEach [] X.env)).all (fun x => x.1.isSome)
      && decide ((e :: es).length + ([] : List Keyword).length + (if ([] : List Keyword).isEmpty then 0 else 1) < 30)) = true := by rfl)
    (hline : (apos.endLine == pos.line) = true := by rfl) (hs : starEach (e :: es) X.env = (false, eval e X.env) :: starEach es X.env := by rfl) (hplain : (backTo pos (starEach es X.env)).any (·.1) = false := by rfl) :
    DE X W (.Call (.Attribute o "index" apos) (e :: es) [] pos) (mIdxT mo n) := by
  refine ⟨⟨fun pins s σ H Q I h => ?_⟩⟩
  obtain ⟨ρ, S, env, hS, hE, h⟩ := h
  have h' : tE X.K W mo σ H fun v H1 => ∃ ρ1 S1 a, SOk X.K ρ1 S1 H1 ∧ EOk X.K ρ1 H1 env σ ∧ Stp ρ ρ1 H H1 ∧ Rp X.K ρ1 H1 a v ∧ Post X.K W (Rp X.K) ρ1 H1 σ (if a.isF = true then (n env S1).bind fun ds S2 => match idxTD a ds with
    | some z => .ok z S2
    | none => .bad
    else .bad) Q := Post.bind hS hE h
  refine wpAny_Call_method_late hbase hfew hline rfl (thn (ho.p.run pins s σ H _ I h') fun v s1 ⟨x, H1, I1, r1, ρ1, S1, a, hS1, hE1, st1, ra, q1⟩ => ?_)
  split at q1
  · rename_i hF
    cases a with
    | ftp l =>
      obtain ⟨p, vs, rfl, ⟨o', hp, hd, ht⟩, rl⟩ := id ra
      cases r1
      obtain ⟨its, rv, pl, hz⟩ := I1.tuple (FTs.tls ⟨o', hp, hd, ht⟩ : TLs X.K H1 p vs).sq
      have hob : s1.heap.get? p = some o' := (I1.hok p _ hp).1
      obtain ⟨ob, ho1, hc, nn, hdt⟩ := id pl
      rw [hob] at ho1; cases ho1
      refine ⟨"tuple", _, PySem.F.plainAttrs_tuple, PySem.F.slot_tuple_index, PySem.F.type_tuple_index, ⟨o', hob, hc⟩, (fun a e => by cases e; exact ⟨o', hob, hd⟩), ?_⟩
      have hA := ha.p.run pos pins s1 σ H1 _ I1 (Post.bind hS1 hE1 q1)
      rw [hs] at hA ⊢
      refine Calls.callWith_builtin (by show (false || (backTo pos (starEach es X.env)).any (·.1)) = false; rw [hplain] <;> rfl) (Calls.evalArgs_plain ?_)
      refine thn hA fun us s2 ⟨ws, H2, I2, r2, ρ2, S2, ds, hS2, hE2, st2, rds, q2⟩ => ?_
      split at q2
      · rename_i z hz'
        unfold idxTD at hz'
        split at hz'
        · rename_i l' d hl'
          cases hl'
          split at hz'
          · rename_i hsh
            cases hf : (D.pys l).findIdx? fun z => PyData.eqv z d.py with
            | none => rw [hf] at hz'; cases hz'
            | some j =>
              rw [hf] at hz'
              cases hz'
              obtain ⟨w, rfl, rw2⟩ := rds.dest1
              cases r2 with
              | cons ru rt =>
                cases rt
                rename_i uy _
                have ra2 := ra.step hS1 st2
                obtain ⟨p', vs', e1, ⟨o2, hp2, hd2, ht2⟩, rl2⟩ := ra2
                cases e1
                obtain ⟨its2, rv2, pl2, hz2⟩ := I2.tuple (FTs.tls ⟨o2, hp2, hd2, ht2⟩ : TLs X.K H2 p vs').sq
                obtain ⟨⟨cls, dd, dt, sl⟩, ho2, hc2, n2, hd2'⟩ := pl2
                simp only at hc2 hd2'
                subst hc2 hd2'
                rw [List.findIdx?_eq_some_iff_getElem] at hf
                obtain ⟨hj, hj1, hj2⟩ := hf
                have c2 : PyData.canLayAll0 (D.pys l) = true := by
                  have := SeqAt.canLay_of_shaped hsh.2
                  simpa [PyData.canLay0] using this
                obtain ⟨as, h4⟩ := Dp.readsAll I2 (D.pys l) _ its2 (Rps.dp l vs' rl2 c2) rv2
                obtain ⟨bs, r1'⟩ := Dp.reads I2 d.py w uy (rw2.dp _ _ (SeqAt.canLay_of_shaped hsh.1)) ru
                have hn : its2.length = (D.pys l).length := SeqAt.ReadsAll.length (D.pys l) its2 as h4
                have hmap : its2.map (SeqAt.readOf s2.heap) = D.pys l := SeqAt.readsAll_map (D.pys l) its2 as c2 h4
                have hjl : j < its2.toArray.size := by simp; omega
                have at_ : ∀ (m : Nat) (hm : m < its2.toArray.size) (hm2 : m < (D.pys l).length), SeqAt.readOf s2.heap its2.toArray[m] = (D.pys l)[m] := by
                  intro m hm hm2
                  have hml : m < its2.length := by simpa using hm
                  have e2 : (its2.map (SeqAt.readOf s2.heap))[m]? = (D.pys l)[m]? := by rw [hmap]
                  rw [List.getElem?_map, List.getElem?_eq_getElem hml, List.getElem?_eq_getElem hm2] at e2
                  have e1 := Option.some.inj e2
                  simpa using e1
                refine call_meets PySem.F.slot_tuple_index ⟨_, ho2, rfl⟩ PySem.F.entry_tuple_index (PySem.F.args_tuple_index_2 _ _)
                  (_root_.TI.tuple_indexAt p its2.toArray n2 dd sl uy (fun u => PyData.eqv (SeqAt.readOf s2.heap u) d.py) j hjl ?_ ?_)
                  ⟨ho2, SeqAt.items_eqAt (vs := its2.toArray) (show ReadsAll s2.heap its2.toArray.toList (D.pys l) as from h4) r1' c2 (SeqAt.canLay_of_shaped hsh.1) (room_in_shaped hsh.1 hu), ?_⟩
                · show PyData.eqv (SeqAt.readOf s2.heap its2.toArray[j]) d.py = true
                  rw [at_ j hjl hj]
                  exact hj1
                · intro m hm hmj
                  show PyData.eqv (SeqAt.readOf s2.heap its2.toArray[m]) d.py = false
                  have hm2 : m < (D.pys l).length := by omega
                  rw [at_ m hm hm2]
                  have := hj2 m hmj
                  simpa using this
                · exact ⟨.int (j : Nat), H2, I2.tok _, ⟨_, rfl⟩, q2 ρ2 H2 _ hS2 .refl rfl⟩
          · cases hz'
        · cases hz'
      · exact q2.elim
    | _ => cases hF
  · exact q1.elim
end
end Mi

namespace Mi
open PySem PySem.Spec PyProof.Rows L2
/-! ### list(zip(a, b)) of tuples -/
section
variable {X : Cx} {pins : List (Addr × Obj)} {σ : L2.St} {H H' : Hp} {s : Shared} {h' : Heap}
/-- many new objects, laid at once -/
theorem laids {t' : Nat} (I : Inv X pins σ H s) (k : ∀ b u, s.heap.get? b = some u → h'.get? b = some u) (up : ∀ a o, H a = some o → H' a = some o)
    (new : ∀ a o, H' a = some o → H a = some o ∨ (s.heap.objs.size ≤ a ∧ ObjOk X.prog X.w H' h' a o)) : Inv X pins σ H' { s with heap := h', toks := t' } := by
  have free : ∀ b, b < s.heap.objs.size → H b = none → H' b = none := fun b hb n => by
    cases e : H' b with
    | none => rfl
    | some o =>
      rcases new b o e with q | q
      · rw [n] at q; cases q
      · exact absurd q.1 (Nat.not_le.mpr hb)
  refine I.un ⟨fun b o q _ _ _ => k b o q, fun b o q _ _ _ => ⟨o.slots, k b o q⟩, fun b o q n _ => free b (Heap.lt_size q) n, fun b o q _ => ⟨o, k b o q⟩, fun b xs q => up b _ q, fun b o u q => up b _ q, fun b ps q => ⟨#[], by rw [up b _ q]; simp⟩⟩ ?_
  intro a o e
  rcases new a o e with q | q
  · exact (I.hok a o q).stay (fun b u _ z => k b u z) (fun c z => up c _ z) fun c xs z => up c _ z
  · exact q.2
end
open Classical in
/-- the pairs at their places -/
noncomputable def putH (H : Hp) (S : Addr) (vs : List V) (R : Addr → List V → Prop) : Hp := fun a =>
  if a = S then some (.lst vs) else if h : ∃ xs, R a xs then some (.tup (choose h)) else H a
section
variable {K : PySem.W.Frag} {ρ : Rho} {S : Sto} {H H' : Hp}
theorem stp_more (up : ∀ a o, H a = some o → H' a = some o) : Stp ρ ρ H H' where
  up _ _ h := h
  new _ _ h := .inl h
  pv _ h := .inl h
  pvu _ h := h
  keep a o h _ := up a o h
  live a h := by
    cases e : H a with
    | none => rfl
    | some o => rw [up a o e] at h; cases h
theorem OOk.more (hS : SOk K ρ S H) (up : ∀ a o, H a = some o → H' a = some o) {a : Addr} {o : O} (h : OOk K ρ H a o) : OOk K ρ H' a o := by
  have kv : ∀ {κ : Type} (l : List (κ × D)) (vs : List (κ × V)), KVs K ρ H l vs → KVs K ρ H' l vs := by
    intro κ l
    induction l with
    | nil => exact fun _ h => h
    | cons d ds ih => exact fun vs ⟨v, r, e, h1, h2⟩ => ⟨v, r, e, Rp.step hS (stp_more up) _ _ h1, ih r h2⟩
  cases o with
  | lst l => obtain ⟨vs, h1, h2⟩ := h; exact ⟨vs, up _ _ h1, Rps.step hS (stp_more up) l vs h2⟩
  | dct l => obtain ⟨vs, h1, h2⟩ := h; exact ⟨vs, up _ _ h1, kv l vs h2⟩
  | dcT l => obtain ⟨vs, h1, h2⟩ := h; exact ⟨vs, up _ _ h1, kv l vs h2⟩
  | ins C l => obtain ⟨dx, vs, h1, h2⟩ := h; exact ⟨dx, vs, up _ _ h1, kv l vs h2⟩
theorem SOk.more (hS : SOk K ρ S H) (up : ∀ a o, H a = some o → H' a = some o) : SOk K ρ S H' :=
  ⟨hS.inj, hS.dom, fun n o e => by
    obtain ⟨a, ha, ok⟩ := hS.obj n o e
    exact ⟨a, ha, OOk.more hS up ok⟩, fun a z => by
    obtain ⟨⟨o, h1, h2⟩, h3⟩ := hS.prv a z
    exact ⟨⟨o, up _ _ h1, h2⟩, h3⟩⟩
end
def lstZipR (ds : List D) (S1 : Sto) : R D := match ds with
  | [.tup l, .tup m] => .ok (.lst (zipD l m)) S1
  | _ => .bad
def mLstZip (n : AM) : TM := fun env S => (n env S).bind lstZipR
def tLstZip (K : PySem.W.Frag) (ta : TA) : TE := fun σ H Q => ta σ H fun vs H1 => ∃ (a b : Addr) (xs ys : List V), vs = [.ref a, .ref b] ∧ SqT K H1 a xs ∧ SqT K H1 b ys ∧
  ∀ (H2 : Hp) (S : Addr) (zs : List V), (∀ a o, H1 a = some o → H2 a = some o) → H1 S = none → H2 S = some (.lst zs) → zs.length = min xs.length ys.length →
    (∀ (j : Nat) (x y : V), xs[j]? = some x → ys[j]? = some y → ∃ T : Addr, zs[j]? = some (.ref T) ∧ H2 T = some (.tup [x, y])) → Q (.ref S) H2
section
variable {X : Cx}
theorem pe_lstZip {e e2 : Expr} {ta : TA} {p pos p' pos' : Pos} (hc : X.calm = true) (hg : Gl X "list") (hm : X.mg "list" = none) (hg' : Gl X "zip") (hm' : X.mg "zip" = none) (ha : PA X [e, e2] ta)
    (hs : starEach [e, e2] X.env = (false, eval e X.env) :: starEach [e2] X.env := by rfl) (hpl : (backTo pos' (starEach [e2] X.env)).any (·.1) = false := by rfl)
    (na : starEach [Expr.Call (.Name "zip" p') [e, e2] [] pos'] X.env = (false, eval (Expr.Call (.Name "zip" p') [e, e2] [] pos') X.env) :: starEach [] X.env := by rfl) :
    PE X (.Call (.Name "list" p) [.Call (.Name "zip" p') [e, e2] [] pos'] [] pos) (tLstZip X.K ta) := by
  refine ⟨fun pins s σ H Q I h => ?_⟩
  refine Call_ (ld_blt I hg hm boot_list (PyProof.Rows.callWith_type1 (args_cons ?_ na) na))
  refine Call_ (ld_blt I hg' hm' PyProof.Rows.boot_zip (PyProof.Rows.callWith_type1 (thn (ha.run pos' pins s σ H _ I h) fun us s1 ⟨vs, H1, I1, r1, q1⟩ => ?_) hs hpl))
  obtain ⟨a, b, xs, ys, ex, hqx, hqy, q⟩ := q1
  subst ex
  cases r1 with
  | cons r rr =>
    cases rr with
    | cons r' rr =>
      cases rr
      cases r
      cases r'
      obtain ⟨its, rv, p1, hz1⟩ := I1.tuple hqx
      obtain ⟨its2, rv2, p2, hz2⟩ := I1.tuple hqy
      obtain ⟨o1, ho1, _⟩ := id p1
      obtain ⟨o2, ho2, _⟩ := id p2
      have la := Heap.lt_size ho1
      have lb := Heap.lt_size ho2
      refine RZ.call_zipT (show s1.heap.IsTuple a its.toArray from p1) (show s1.heap.IsTuple b its2.toArray from p2) fun h' hz hTI hTO h1 h2 hsz hk => args_nil ?_
      have I2 : Inv X pins σ H1 { s1 with heap := h' } := I1.kept (t' := s1.toks) hk
      have p1' : h'.IsTuple a its.toArray := by obtain ⟨o, ho, r⟩ := p1; exact ⟨o, hk _ _ ho, r⟩
      have p2' : h'.IsTuple b its2.toArray := by obtain ⟨o, ho, r⟩ := p2; exact ⟨o, hk _ _ ho, r⟩
      have l1 := rv.length
      have l2 := rv2.length
      refine MiZ.call_list_zip (s := { s1 with heap := h' }) (n := min its.toArray.size its2.toArray.size) (I1.ok.hd hc) (PySem.W.ktu_apart s1.heap.objs.size a b la lb) ⟨Nat.ne_of_lt (Nat.lt_of_lt_of_le la (Nat.le_add_right _ _)), Nat.ne_of_lt (Nat.lt_of_lt_of_le lb (Nat.le_add_right _ _))⟩ rfl (by simp only [List.size_toArray]; omega) hz hTI ⟨_, _, hTO⟩ h1 h2 p1' p2' fun h2' acc c' hk2 hS hsize hall => ?_
      simp only [List.size_toArray] at hsize hall
      have hN : (s1.heap.objs.size ≤ h'.objs.size) := by omega
      have kk : ∀ b u, s1.heap.get? b = some u → h2'.get? b = some u := fun b u e => hk2 b u (by
        have hb := Heap.lt_size e
        simp
        refine ⟨?_, ?_, ?_, ?_, ?_⟩ <;> (intro z; rw [z] at hb; revert hb; first | exact fun hb => absurd hb (Nat.not_lt.mpr (Nat.le_add_right _ _)) | exact fun hb => absurd hb (Nat.lt_irrefl _))) (hk b u e)
      -- the places of the pairs
      let R : Addr → List V → Prop := fun T zs => ∃ (j : Nat) (x y : V), xs[j]? = some x ∧ ys[j]? = some y ∧ acc[j]? = some (Value.ref T) ∧ zs = [x, y]
      have hfact : ∀ T zs, R T zs → s1.heap.objs.size ≤ T ∧ T ≠ h'.objs.size ∧ ∃ u v, Vals zs [u, v] ∧ PySem.IsPair h2' T u v := fun T zs ⟨j, x, y, hx, hy, hj, e⟩ => by
        subst e
        obtain ⟨u, hu, ru⟩ := rv.get hx
        obtain ⟨v, hv, rv'⟩ := rv2.get hy
        have hjn : j < min its.length its2.length := by
          have := (List.getElem?_eq_some_iff.mp hu).1
          have := (List.getElem?_eq_some_iff.mp hv).1
          omega
        obtain ⟨T', u', v', a1, a2, a3, a4, a5⟩ := hall j hjn
        rw [hj] at a1
        cases a1
        simp at a2 a3
        rw [hu] at a2
        rw [hv] at a3
        cases a2
        cases a3
        refine ⟨Nat.le_of_lt (Nat.lt_of_le_of_lt (Nat.le_add_right _ 4) a5), fun z => ?_, u, v, .cons ru (.cons rv' .nil), a4⟩
        subst z
        have a4' : h2'.get? h'.objs.size = some _ := a4
        rw [hS] at a4'
        injection a4' with a4'
        injection (congrArg Obj.cls a4') with a6
        exact absurd a6 (by decide)
      have huniq : ∀ T zs zs', R T zs → R T zs' → zs = zs' := fun T zs zs' r r' => by
        obtain ⟨_, _, u, v, e1, e2⟩ := hfact T zs r
        obtain ⟨_, _, u', v', e3, e4⟩ := hfact T zs' r'
        have : (some _ : Option Obj) = some _ := (show h2'.get? T = some _ from e2).symm.trans (show h2'.get? T = some _ from e4)
        cases this
        exact e1.inj e3
      have hput : ∀ T zs, R T zs → putH H1 h'.objs.size (acc.toList.map bkV) R T = some (.tup zs) := fun T zs r => by
        unfold putH
        rw [if_neg (hfact T zs r).2.1, dif_pos ⟨zs, r⟩]
        have : Classical.choose (⟨zs, r⟩ : ∃ xs, R T xs) = zs := huniq T _ _ (Classical.choose_spec (⟨zs, r⟩ : ∃ xs, R T xs)) r
        rw [this]
      have hrefs : ∀ u ∈ acc.toList, ∃ T, u = Value.ref T := fun u hu => by
        obtain ⟨j, hj⟩ := List.mem_iff_getElem?.mp hu
        have hjl : j < min its.length its2.length := by
          have := (List.getElem?_eq_some_iff.mp hj).1
          simp at this
          omega
        obtain ⟨T, _, _, a1, _⟩ := hall j hjl
        simp at hj
        rw [a1] at hj
        exact ⟨T, (Option.some.inj hj).symm⟩
      have hup : ∀ a o, H1 a = some o → putH H1 h'.objs.size (acc.toList.map bkV) R a = some o := fun a o e => by
        have ha : a < s1.heap.objs.size := I1.hok.lt e
        unfold putH
        rw [if_neg (Nat.ne_of_lt (Nat.lt_of_lt_of_le ha hN))]
        split
        · rename_i h
          obtain ⟨zs, r⟩ := h
          exact absurd (hfact a zs r).1 (Nat.not_le.mpr ha)
        · exact e
      have hvals : Vals (acc.toList.map bkV) acc.toList := bkV_vals hrefs
      have hzl : (acc.toList.map bkV).length = min xs.length ys.length := by
        rw [List.length_map, Array.length_toList, hsize, l1, l2]
      have I3 : Inv X pins σ (putH H1 h'.objs.size (acc.toList.map bkV) R) { s1 with heap := h2', toks := s1.toks } := laids I1 kk hup fun a o e => by
        by_cases ha : a = h'.objs.size
        · subst ha
          have : o = .lst (acc.toList.map bkV) := by
            unfold putH at e
            rw [if_pos rfl] at e
            exact (Option.some.inj e).symm
          subst this
          refine .inr ⟨by omega, show ObjOk X.prog X.w _ _ _ (.lst _) from ⟨by rw [hzl]; omega, acc.toList, c', hvals, ?_⟩⟩
          rw [Array.toArray_toList]
          exact hS
        · by_cases hr : ∃ zs, R a zs
          · obtain ⟨zs, r⟩ := hr
            rw [hput a zs r] at e
            cases e
            obtain ⟨q1, q2, u, v, q3, q4⟩ := hfact a zs r
            refine .inr ⟨q1, show ObjOk X.prog X.w _ _ _ (.tup _) from ⟨?_, [u, v], q3, ⟨_, q4, rfl, _, rfl⟩⟩⟩
            rw [q3.length]
            show 2 ≤ sizeLine
            decide
          · unfold putH at e
            rw [if_neg ha, dif_neg hr] at e
            exact .inl e
      refine ⟨.ref h'.objs.size, _, I3, rfl, q _ _ (acc.toList.map bkV) hup (I1.hok.fresh (by omega)) (by unfold putH; rw [if_pos rfl]) hzl fun j x y hx hy => ?_⟩
      have hjn : j < min its.length its2.length := by
        have := (List.getElem?_eq_some_iff.mp hx).1
        have := (List.getElem?_eq_some_iff.mp hy).1
        omega
      obtain ⟨T, u, v, a1, a2, a3, a4, a5⟩ := hall j hjn
      refine ⟨T, ?_, hput T _ ⟨j, x, y, hx, hy, a1, rfl⟩⟩
      rw [List.getElem?_map, Array.getElem?_toList, a1]
      rfl
theorem d_lstZip {W : WX} {e e2 : Expr} {n : AM} {p pos p' pos' : Pos} (hc : X.calm = true) (hg : Gl X "list") (hm : X.mg "list" = none) (hg' : Gl X "zip") (hm' : X.mg "zip" = none) (ha : DA X W [e, e2] n)
    (hs : starEach [e, e2] X.env = (false, eval e X.env) :: starEach [e2] X.env := by rfl) (hpl : (backTo pos' (starEach [e2] X.env)).any (·.1) = false := by rfl)
    (na : starEach [Expr.Call (.Name "zip" p') [e, e2] [] pos'] X.env = (false, eval (Expr.Call (.Name "zip" p') [e, e2] [] pos') X.env) :: starEach [] X.env := by rfl) :
    DE X W (.Call (.Name "list" p) [.Call (.Name "zip" p') [e, e2] [] pos'] [] pos) (mLstZip n) :=
  ⟨PE.imp (pe_lstZip hc hg hm hg' hm' ha.p hs hpl na) fun σ H Q ⟨ρ, S, env, hS, hE, h⟩ => Post.bindK hS hE h fun vs H1 ρ1 S1 ds hS1 hE1 st1 r1 h1 => by
    unfold lstZipR at h1
    split at h1
    · rename_i l m
      obtain ⟨v1, v2, rfl, ⟨a, xs, rfl, ha1, ra⟩, ⟨b, ys, rfl, hb1, rb⟩⟩ := r1.dest2
      refine ⟨a, b, xs, ys, rfl, ha1.sq, hb1.sq, fun H2 Sa zs up hn hS2 hl hall => ?_⟩
      refine h1 ρ1 H2 (.ref Sa) (hS1.more up) (stp_more up) ⟨Sa, zs, rfl, hS2, ?_, ?_⟩
      · exact hS1.noN hn
      · have go : ∀ (l m : List D) (xs ys zs : List V), Rps X.K ρ1 H1 l xs → Rps X.K ρ1 H1 m ys → zs.length = min xs.length ys.length → (∀ (j : Nat) (x y : V), xs[j]? = some x → ys[j]? = some y → ∃ T : Addr, zs[j]? = some (V.ref T) ∧ H2 T = some (.tup [x, y])) → Rps X.K ρ1 H2 (zipD l m) zs := by
          intro l
          induction l with
          | nil =>
            intro m xs ys zs hx hy hl _
            cases hx
            have : zs = [] := List.length_eq_zero_iff.mp (by simpa using hl)
            subst this
            rfl
          | cons d l ih =>
            intro m xs ys zs hx hy hl hall
            obtain ⟨x, xr, rfl, h1, h2⟩ := hx
            cases m with
            | nil =>
              cases hy
              have : zs = [] := List.length_eq_zero_iff.mp (by simpa using hl)
              subst this
              rfl
            | cons e m =>
              obtain ⟨y, yr, rfl, h3, h4⟩ := hy
              cases zs with
              | nil => simp at hl
              | cons z zs =>
                obtain ⟨T, t1, t2⟩ := hall 0 x y rfl rfl
                cases t1
                have st := stp_more (ρ := ρ1) up
                refine ⟨.ref T, zs, rfl, ⟨T, [x, y], rfl, .inl t2, x, [y], rfl, Rp.step hS1 st _ _ h1, y, [], rfl, Rp.step hS1 st _ _ h3, rfl⟩, ?_⟩
                refine ih m xr yr zs h2 h4 (by simp at hl; omega) fun j x y hx hy => ?_
                obtain ⟨T', q1, q2⟩ := hall (j + 1) x y (by simpa using hx) (by simpa using hy)
                exact ⟨T', by simpa using q1, q2⟩
        exact go l m xs ys zs ra rb hl hall
    · exact h1.elim⟩
end
end Mi

namespace Mi
namespace I3
open PySem PySem.Spec PyProof.Rows L2
/-! ### sorted(l), l a list of tuples: ints -/
abbrev SK := List (Int ⊕ List Nat)
def shp : Nat → Bool := fun _ => false
def keyVs : Nat → List V → Option SK
  | _, [] => some []
  | i, .int n :: r => if shp i = true then none else (keyVs (i + 1) r).map (Sum.inl n :: ·)
  | i, .str x :: r => if shp i = true then (keyVs (i + 1) r).map (Sum.inr x.cps.toList :: ·) else none
  | _, _ => none
def keyDs : Nat → List D → Option SK
  | _, [] => some []
  | i, .int n :: r => if shp i = true then none else (keyDs (i + 1) r).map (Sum.inl n :: ·)
  | i, .str x :: r => if shp i = true then (keyDs (i + 1) r).map (Sum.inr x.cps.toList :: ·) else none
  | _, _ => none
def tkD : D → Option SK
  | .tup (d :: l) => keyDs 0 (d :: l)
  | _ => none
theorem keyVs_items : ∀ {xs : List V} {us : List Value} {i : Nat} {k : SK}, Vals xs us → keyVs i xs = some k → tupItems shp i us = some k
  | _, _, _, _, .nil, h => h
  | x :: xs, u :: us, i, k, .cons r t, h => by
    cases x with
    | int n =>
      obtain ⟨tk, rfl⟩ := r
      simp only [keyVs] at h
      simp only [tupItems]
      by_cases hs : shp i = true
      · rw [if_pos hs] at h; cases h
      · rw [if_neg hs] at h ⊢
        cases hk : keyVs (i + 1) xs with
        | none => rw [hk] at h; cases h
        | some k' => rw [hk] at h; rw [keyVs_items t hk]; exact h
    | str x =>
      obtain ⟨tk, rfl⟩ := r
      simp only [keyVs] at h
      simp only [tupItems]
      by_cases hs : shp i = true
      · rw [if_pos hs] at h ⊢
        cases hk : keyVs (i + 1) xs with
        | none => rw [hk] at h; cases h
        | some k' => rw [hk] at h; rw [keyVs_items t hk]; exact h
      · rw [if_neg hs] at h; cases h
    | _ => simp [keyVs] at h
theorem keyDs_vs {K : PySem.W.Frag} {ρ : Rho} {H : Hp} : ∀ {l : List D} {xs : List V} {i : Nat} {k : SK}, Rps K ρ H l xs → keyDs i l = some k → keyVs i xs = some k
  | [], _, _, _, h, e => by cases h; exact e
  | d :: l, _, i, k, h, e => by
    obtain ⟨v, r, rfl, h1, h2⟩ := h
    cases d with
    | int n =>
      cases h1
      simp only [keyDs] at e
      simp only [keyVs]
      by_cases hs : shp i = true
      · rw [if_pos hs] at e; cases e
      · rw [if_neg hs] at e ⊢
        cases hk : keyDs (i + 1) l with
        | none => rw [hk] at e; cases e
        | some k' => rw [hk] at e; rw [keyDs_vs h2 hk]; exact e
    | str x =>
      cases h1
      simp only [keyDs] at e
      simp only [keyVs]
      by_cases hs : shp i = true
      · rw [if_pos hs] at e ⊢
        cases hk : keyDs (i + 1) l with
        | none => rw [hk] at e; cases e
        | some k' => rw [hk] at e; rw [keyDs_vs h2 hk]; exact e
      · rw [if_neg hs] at e; cases e
    | _ => simp [keyDs] at e
theorem keyDs_inj : ∀ {l m : List D} {i : Nat} {k : SK}, keyDs i l = some k → keyDs i m = some k → l = m
  | [], [], _, _, _, _ => rfl
  | [], e :: m, i, k, h1, h2 => by
    cases h1
    cases e <;> simp [keyDs] at h2
  | d :: l, [], i, k, h1, h2 => by
    cases h2
    cases d <;> simp [keyDs] at h1
  | d :: l, e :: m, i, k, h1, h2 => by
    have streq : ∀ {x y : Str}, x.cps = y.cps → x = y := fun {x y} h => by
      cases x; cases y
      simp only at h
      rw [h]
    cases d <;> cases e <;> simp [keyDs] at h1 h2
    · obtain ⟨q1, k1, h3, h4⟩ := h1
      obtain ⟨q2, k2, h5, h6⟩ := h2
      rw [← h4] at h6
      simp at h6
      rw [h6.2] at h5
      rw [h6.1, keyDs_inj h3 h5]
    · exact absurd h2.1 (by simp [h1.1])
    · exact absurd h1.1 (by simp [h2.1])
    · obtain ⟨q1, k1, h3, h4⟩ := h1
      obtain ⟨q2, k2, h5, h6⟩ := h2
      rw [← h4] at h6
      simp at h6
      rw [h6.2] at h5
      rw [keyDs_inj h3 h5]
      congr 2
      exact streq h6.1.symm
theorem tkD_inj {d e : D} {k : SK} (h1 : tkD d = some k) (h2 : tkD e = some k) : d = e := by
  unfold tkD at h1 h2
  split at h1
  · split at h2
    · rw [keyDs_inj h1 h2]
    · cases h2
  · cases h1
/-- not later than -/
def leD0 (d e : D) : Prop := ∀ a b, tkD d = some a → tkD e = some b → PyProof.Rows.lexLt itemOrd b a = false
theorem leD0_antisymm {d e : D} (h1 : leD0 d e) (h2 : leD0 e d) (hd : (tkD d).isSome = true) (he : (tkD e).isSome = true) : d = e := by
  cases ha : tkD d with
  | none => rw [ha] at hd; cases hd
  | some a =>
    cases hb : tkD e with
    | none => rw [hb] at he; cases he
    | some b =>
      have := PyProof.Rows.lex_total (O := itemOrd) a b (h2 b a hb ha) (h1 a b ha hb)
      subst this
      exact tkD_inj ha hb
open Classical in
noncomputable def srtD (l : List D) : List D := if h : ∃ l' : List D, l'.Perm l ∧ l'.Pairwise leD0 then choose h else l
theorem srtD_eq {l l' : List D} (hk : ∀ d ∈ l, (tkD d).isSome = true) (hp : l'.Perm l) (hs : l'.Pairwise leD0) : l' = srtD l := by
  have h : ∃ l' : List D, l'.Perm l ∧ l'.Pairwise leD0 := ⟨l', hp, hs⟩
  unfold srtD
  rw [dif_pos h]
  obtain ⟨q1, q2⟩ := Classical.choose_spec h
  refine List.Perm.eq_of_pairwise (fun a b ha hb h1 h2 => leD0_antisymm h1 h2 (hk a (hp.mem_iff.mp ha)) (hk b (q1.mem_iff.mp hb))) hs q2 (hp.trans q1.symm)
theorem srtD_perm {l : List D} : (srtD l).Perm l := by
  unfold srtD
  split
  · rename_i h; exact (Classical.choose_spec h).1
  · exact .rfl
noncomputable def sortTD : GL := fun S ds => match ds with
  | [d] => match lstD S d with
    | some l => if l.all (fun d => (tkD d).isSome) = true then some (.lst (srtD l)) else none
    | none => none
  | _ => none
theorem rps_perm {K : PySem.W.Frag} {ρ : Rho} {H : Hp} {ys xs : List V} (h : ys.Perm xs) : ∀ l : List D, Rps K ρ H l xs → ∃ l' : List D, l'.Perm l ∧ Rps K ρ H l' ys := by
  induction h with
  | nil => exact fun l h => ⟨l, .rfl, h⟩
  | cons a _ ih =>
    intro l h
    cases l with
    | nil => cases h
    | cons d l =>
      obtain ⟨v, r, e, h1, h2⟩ := h
      cases e
      obtain ⟨l', p, q⟩ := ih l h2
      exact ⟨d :: l', p.cons d, _, _, rfl, h1, q⟩
  | swap a b t =>
    intro l h
    cases l with
    | nil => cases h
    | cons d l =>
      obtain ⟨v, r, e, h1, h2⟩ := h
      cases e
      cases l with
      | nil => cases h2
      | cons d2 l =>
        obtain ⟨v, r, e, h3, h4⟩ := h2
        cases e
        exact ⟨d2 :: d :: l, .swap _ _ _, _, _, rfl, h3, _, _, rfl, h1, h4⟩
  | trans _ _ ih1 ih2 =>
    intro l h
    obtain ⟨l1, p1, q1⟩ := ih2 l h
    obtain ⟨l2, p2, q2⟩ := ih1 l1 q1
    exact ⟨l2, p2.trans p1, q2⟩
theorem rps_pw {K : PySem.W.Frag} {ρ : Rho} {H : Hp} {R : V → V → Prop} {R' : D → D → Prop} : ∀ {l : List D} {xs : List V}, Rps K ρ H l xs → xs.Pairwise R → (∀ d v e u, d ∈ l → e ∈ l → Rp K ρ H d v → Rp K ρ H e u → R v u → R' d e) → l.Pairwise R'
  | [], _, _, _, _ => .nil
  | d :: l, _, h, hp, k => by
    obtain ⟨v, r, rfl, h1, h2⟩ := h
    obtain ⟨p1, p2⟩ := List.pairwise_cons.mp hp
    refine List.pairwise_cons.mpr ⟨fun e he => ?_, rps_pw h2 p2 fun d v e u hd he => k d v e u (List.mem_cons_of_mem _ hd) (List.mem_cons_of_mem _ he)⟩
    obtain ⟨i, hi⟩ := List.mem_iff_getElem?.mp he
    obtain ⟨u, hu, ru⟩ := h2.get hi
    exact k d v e u List.mem_cons_self (List.mem_cons_of_mem _ he) h1 ru (p1 u (List.mem_of_getElem? hu))
theorem tkD_vs {K : PySem.W.Frag} {ρ : Rho} {H : Hp} {d : D} {v : V} {k : SK} (h : Rp K ρ H d v) (e : tkD d = some k) : ∃ t xs, v = .ref t ∧ SqT K H t xs ∧ keyVs 0 xs = some k ∧ xs ≠ [] := by
  unfold tkD at e
  split at e
  · obtain ⟨p, vs, rfl, h1, h2⟩ := h
    refine ⟨p, vs, rfl, h1.sq, keyDs_vs h2 e, fun z => ?_⟩
    subst z
    obtain ⟨_, _, e', _⟩ := h2
    cases e'
  · cases e
section
variable {X : Cx} {pins : List (Addr × Obj)} {σ : L2.St} {H : Hp} {s : Shared}
theorem tk_raw (I : Inv X pins σ H s) {t : Addr} {xs : List V} {k : SK} (h : SqT X.K H t xs) (e : keyVs 0 xs = some k) : G.tupKeyC s.heap shp (.ref t) = some k := by
  obtain ⟨its, r, ⟨o, ho, hc, n, hd⟩, hz⟩ := I.tuple h
  have h1 : G.isTupObj s.heap (.ref t) = true := by
    simp only [G.isTupObj, ho, hc]
    rfl
  unfold G.tupKeyC
  rw [if_pos h1]
  show (match s.heap.get? t with | some o => (match o.data with | .seq xs _ => tupItems shp 0 xs.toList | _ => none) | none => none) = some k
  rw [ho]
  show (match o.data with | .seq xs _ => tupItems shp 0 xs.toList | _ => none) = some k
  rw [hd]
  exact keyVs_items r e
theorem tups_of (I : Inv X pins σ H s) : ∀ {xs : List V} {us : List Value}, Vals xs us → (∀ x ∈ xs, ∃ t zs k, x = V.ref t ∧ SqT X.K H t zs ∧ keyVs 0 zs = some k ∧ zs ≠ []) → ∃ fs, TupsOf s.heap shp us fs
  | _, _, .nil, _ => ⟨[], .nil⟩
  | x :: xs, u :: us, .cons r t, h => by
    obtain ⟨fs, hf⟩ := tups_of I t fun y hy => h y (List.mem_cons_of_mem _ hy)
    obtain ⟨a, zs, k, rfl, h1, h2, h3⟩ := h x List.mem_cons_self
    cases r
    obtain ⟨its, r, ⟨o, ho, hc, n, hd⟩, hz⟩ := I.tuple h1
    cases zs with
    | nil => exact absurd rfl h3
    | cons z zs =>
      cases r with
      | cons rz rt =>
        rename_i w ws
        refine ⟨w :: fs, .cons ⟨a, o, _, n, rfl, ho, hc, hd, by simp, fun _ => ?_, fun q => absurd q (by decide)⟩ hf⟩
        cases z with
        | int x =>
          obtain ⟨tk, rfl⟩ := rz
          exact ⟨x, tk, rfl⟩
        | str x => simp [keyVs, shp] at h2
        | _ => simp [keyVs] at h2
end
theorem arr_pw {κ : KeyKind} {xs : Array Keyed} (hs : SortedToK κ xs xs.size) (hd : ∀ p ∈ xs.toList, p.1 = p.2) : ((xs.map (·.2)).toList).Pairwise fun u v => ∀ a b, κ.keyOf u = some a → κ.keyOf v = some b → κ.blt b a = false := by
  rw [List.pairwise_iff_getElem]
  intro i j hi hj hij a b ha hb
  have hi' : i < xs.size := by simpa using hi
  have hj' : j < xs.size := by simpa using hj
  have q := hs i j (Nat.le_of_lt hij) hj'
  unfold KeyOrd.kle KK at q
  have e1 : xs[i]? = some xs[i] := by simp [hi']
  have e2 : xs[j]? = some xs[j] := by simp [hj']
  rw [e1, e2] at q
  simp only at q
  have d1 : xs[i].1 = xs[i].2 := hd _ (by simp)
  have d2 : xs[j].1 = xs[j].2 := hd _ (by simp)
  rw [d1, d2] at q
  have f1 : (xs.map (·.2)).toList[i] = xs[i].2 := by simp
  have f2 : (xs.map (·.2)).toList[j] = xs[j].2 := by simp
  rw [f1] at ha
  rw [f2] at hb
  rw [ha, hb] at q
  exact q
theorem zip_same {α : Type} : ∀ (l : List α) (p : α × α), p ∈ l.zip l → p.1 = p.2
  | [], p, h => by cases h
  | a :: l, p, h => by
    rcases List.mem_cons.mp h with e | e
    · rw [e]
    · exact zip_same l p e
theorem zip_snd {α : Type} : ∀ (l : List α), (l.zip l).map (·.2) = l
  | [] => rfl
  | a :: l => by
    show a :: (l.zip l).map (·.2) = a :: l
    rw [zip_snd l]
section
variable {X : Cx}
theorem cD_sortT : CallR X (.builtin "sorted") (rL X.K sortTD) := by
  intro pins s σ H xs us Q I r ⟨ρ, S, ds, z, hS, rd, e, q⟩
  unfold sortTD at e
  split at e
  · rename_i d
    cases hl : lstD S d with
    | none => rw [hl] at e; cases e
    | some l =>
      rw [hl] at e
      simp only at e
      split at e
      · rename_i hall
        cases e
        obtain ⟨v, rfl, h1⟩ := rd.dest1
        obtain ⟨p, vs, rfl, h2, h3⟩ := der_lst hS h1 hl
        have hk : ∀ d ∈ l, (tkD d).isSome = true := fun d hd => List.all_eq_true.mp hall d hd
        have hv : ∀ x ∈ vs, ∃ t zs k, x = V.ref t ∧ SqT X.K H t zs ∧ keyVs 0 zs = some k ∧ zs ≠ [] := fun x hx => by
          obtain ⟨i, hi⟩ := List.mem_iff_getElem?.mp hx
          have hil : i < l.length := by rw [h3.length]; exact (List.getElem?_eq_some_iff.mp hi).1
          obtain ⟨x', hx', rx⟩ := h3.get (List.getElem?_eq_getElem hil)
          rw [hi] at hx'; cases hx'
          have hs := hk _ (List.getElem_mem hil)
          cases hq : tkD l[i] with
          | none => rw [hq] at hs; cases hs
          | some k =>
            obtain ⟨t, zs, e1, e2, e3, e4⟩ := tkD_vs rx hq
            exact ⟨t, zs, k, e1, e2, e3, e4⟩
        obtain ⟨its, rv, hL, hz⟩ := I.list h2
        rw [Vals.ref1 r]
        obtain ⟨e1, e2⟩ := bkV_refs rv fun x m => by
          obtain ⟨t, _, _, e, _⟩ := hv x m
          exact ⟨t, e⟩
        obtain ⟨fs, hf⟩ := tups_of I rv hv
        refine G.sorted_tups (shape := shp) hL.isList hf (fun u hu => ?_) (by rw [← rv.length]; exact hz) fun st' hp hs _ => ?_
        · obtain ⟨t, rfl⟩ := e2 u hu
          have hm : V.ref t ∈ vs := by rw [e1]; exact List.mem_map.mpr ⟨_, hu, rfl⟩
          obtain ⟨t', zs, k, e, h4, h5, _⟩ := hv _ hm
          cases e
          exact ⟨k, tk_raw I h4 h5⟩
        · obtain ⟨ep, he'⟩ := PyProof.Rows.sortedAll_at s.heap its ((arrOf st').map (·.2))
          have hpl : (arrOf st').toList.Perm (its.zip its) := by
            rw [← pairsOf_toList]; exact Array.perm_iff_toList_perm.mp hp
          have hout : ((arrOf st').map (·.2)).toList.Perm its := by
            have := hpl.map (·.2)
            rw [zip_snd] at this
            simpa using this
          have h3' : ∀ u ∈ ((arrOf st').map (·.2)).toList, ∃ a, u = Value.ref a := fun u hu => e2 u (hout.mem_iff.mp hu)
          have hpv : (((arrOf st').map (·.2)).toList.map bkV).Perm vs := by rw [e1]; exact hout.map bkV
          have hsz : (arrOf st').size = (pairsOf its).size := hp.size_eq
          have pw := arr_pw (κ := G.tupKindC s.heap shp) (xs := arrOf st') (by rw [hsz]; exact hs) fun p hp' => zip_same its p (hpl.mem_iff.mp hp')
          obtain ⟨l', pl, rl⟩ := rps_perm hpv l h3
          have pwD : l'.Pairwise leD0 := by
            refine rps_pw (R := fun v u => ∀ a b, (∃ t, v = .ref t ∧ G.tupKeyC s.heap shp (.ref t) = some a) → (∃ t, u = .ref t ∧ G.tupKeyC s.heap shp (.ref t) = some b) → PyProof.Rows.lexLt itemOrd b a = false) rl ?_ fun d v e u hd he rd re hvu a b ha hb => ?_
            · rw [List.pairwise_map]
              refine List.Pairwise.imp (fun {u v} huv a b ha hb => ?_) pw
              obtain ⟨t, et, ht⟩ := ha
              obtain ⟨t', et', ht'⟩ := hb
              have eu := bkV_ref et
              have ev := bkV_ref et'
              subst eu ev
              exact huv a b ht ht'
            · obtain ⟨t, xs1, ev, h6, h7, _⟩ := tkD_vs rd ha
              obtain ⟨t', xs2, eu, h8, h9, _⟩ := tkD_vs re hb
              exact hvu a b ⟨t, ev, tk_raw I h6 h7⟩ ⟨t', eu, tk_raw I h8 h9⟩
          have el := srtD_eq hk pl pwD
          rw [el] at rl
          refine ⟨.ref _, upd H (s.heap.objs.size + 1) (.lst (((arrOf st').map (·.2)).toList.map bkV)), I.laid (t' := s.toks) (fun _ _ => PyProof.Rows.sortedAll_old) (Nat.le_succ _) ⟨by rw [hpv.length_eq]; exact hz, ((arrOf st').map (·.2)).toList, ep, bkV_vals h3', by rw [Array.toArray_toList]; exact he'⟩, rfl, new_lst hS rl (I.hok.fresh (Nat.le_succ _)) q⟩
      · cases e
  · cases e
end
end I3
end Mi

namespace MiS
open PySem PySem.Spec PyProof.Rows L2
/-! ### set(t), t a tuple of tuples of ints -/
/-- a set that has just been made -/
abbrev fo (w : World) : Obj := { cls := .type "set", dict := none, data := .set #[] 0 (.fresh 0 0 (!w.params.followText "set-order")) }
/-- what the set is at last -/
def Fin (P : Program) (w : World) (ks : List (Addr × List Int)) (S : Addr) (h0 h1 : Heap) : Prop :=
  ∃ L es ep t, SetTR P w h1 S L es ep t ∧ Got ks ks.length L ∧ ∀ b o, h0.get? b = some o → h1.get? b = some o
section
variable {P : Program} {w : World} {A : Around} {E : Value → Shared → Prop} {s : Shared}
theorem set_tuple {tu : Addr} {its : Array Value} (ks : List (Addr × List Int)) {Q : Value → Shared → Prop} (hA : A.handled = none) (ht : s.heap.IsTuple tu its) (hi : its.toList = ks.map fun p => Value.ref p.1)
    (hk : ∀ p ∈ ks, IsT P w s.heap p.2 p.1) (hf : ks.length < 64) (hu : A.units + 3 < cLine)
    (hQ : ∀ (h' : Heap) (tk : Nat), Fin P w ks s.heap.objs.size s.heap h' → Q (.ref s.heap.objs.size) { s with heap := h', toks := tk }) :
    wpAny (model P w) A (call (.type "set") [.ref tu]) Q E s := by
  have hz : its.size = ks.length := by simpa using congrArg List.length hi
  obtain ⟨mc, mt, hm⟩ := F.called_set.mro
  have hmd := F.called_set.made
  have hsu := F.called_set.sub
  refine wpAny_call (codeAny_of_tree ?_)
  show wpAny _ _ (callAny (.type "set") _) _ _ _
  refine wpAny_pure (And.intro (Code.quiet_builtin _ (by decide +kernel)) (codeAny_builtin F.entry_type_call ?_))
  rw [Around.under_plain (weight_type_call_type "set" [.ref tu] []) rfl]
  have c1 := F.called_set.notType
  have c2 := F.called_set.canCreate
  have c3 := F.typeCall_set_1 (.ref tu)
  repeat (any_goals (first | assumption | wp_step))
  refine codeAny_mono (code_set_led1 (.ref tu) (E := E) (Q₁ := fun ob s1 => ob = .ref s.heap.objs.size ∧ s1 = { s with heap := s.heap.push (fo w) }) ⟨rfl, rfl⟩) fun r s1 hr => ?_
  cases r with
  | error e => exact hr
  | ok fl =>
    cases fl with
    | ret ob =>
      obtain ⟨rfl, rfl⟩ := hr
      have g0 : (s.heap.push (fo w)).get? s.heap.objs.size = some (fo w) := Heap.get?_push_size _ rfl
      have hT : Shared.TypeIs { s with heap := s.heap.push (fo w) } (.ref s.heap.objs.size) "set" := ⟨_, g0, rfl⟩
      have i1 := F.called_set.init.lookup
      have i2 := F.called_set.init.bind (.ref s.heap.objs.size)
      repeat (any_goals (first | assumption | wp_step))
      refine codeAny_mono (codeAny_call_builtin (R := wants (fun r s2 => r = .none ∧ ∃ h' tk, s2 = { s with heap := h', toks := tk } ∧ Fin P w ks s.heap.objs.size s.heap h') E) F.called_set.init.plain F.entry_set_init (check_set_init_1 hT ?_)) fun r2 s2 hr2 => ?_
      · obtain ⟨⟨oc, od, dt, sl⟩, ho, hc, nn, hd⟩ := ht
        simp only at hc hd
        subst hc hd
        have ho1 : (s.heap.push (fo w)).get? tu = some { cls := .type "tuple", dict := od, data := .seq its nn, slots := sl } := Heap.get?_push_of_some _ ho
        have j1 := F.sub_tuple_set
        have j2 := F.sub_tuple_frozenset
        have j3 : (Value.type "tuple" == Value.type "dict") = false := by decide
        have t1 : (s.heap.push (fo w)).IsTuple tu its := ⟨_, ho1, rfl, nn, rfl⟩
        unfold Builtin.«set.__init__» noKeywords Builtin.Frozenset.updateFrom
        generalize hIt : pyIter = It
        wp_walk
        subst hIt
        refine wpAny_pyIter_tuple t1 (wpAny_bind (wpAny_runValue ?_))
        have lt : tu < s.heap.objs.size := Heap.lt_size ho
        have hA3 : A.in1.in1.in1.handled = none := by simp [hA]
        have sz : (s.heap.push (fo w)).objs.size = s.heap.objs.size + 1 := Heap.size_push ..
        have ne1 : tu ≠ (s.heap.push (fo w)).objs.size := by rw [sz]; exact Nat.ne_of_lt (Nat.lt_succ_of_lt lt)
        have nf : s.heap.objs.size ∉ [(s.heap.push (fo w)).objs.size, tu] := by
          rw [sz]
          simp
          exact Nat.ne_of_gt lt
        have at' : ∀ (i : Nat) (v : Value), its[i]? = some v → ∃ p, ks[i]? = some p ∧ v = .ref p.1 := fun i v hv => by
          have e : (ks.map fun p => Value.ref p.1)[i]? = some v := by rw [← hi, Array.getElem?_toList]; exact hv
          rw [List.getElem?_map] at e
          cases q : ks[i]? with
          | none => rw [q] at e; cases e
          | some p => rw [q] at e; exact ⟨p, rfl, (Option.some.inj e).symm⟩
        have no : ∀ b, s.heap.objs.size ≤ b → s.heap.get? b = none := fun b hb => by
          cases q : s.heap.get? b with
          | none => rfl
          | some o => exact absurd (Heap.lt_size q) (Nat.not_lt.mpr hb)
        refine set_update_tups ((Walks.tuple hA3 _ tu ne1 its).toS) s.heap.objs.size nf ks hz hf at' s.heap hk (no _ (Nat.le_refl _)) (fun b hb => no b (by
            rw [List.mem_singleton.mp hb, sz]
            exact Nat.le_succ _)) hu (its.size - 0) 0 _ (by omega) (Nat.zero_le _)
          ⟨⟨_, Heap.get?_push_size _ rfl, rfl, rfl⟩, (t1.push _)⟩ (fun b o e => Heap.get?_push_of_some _ (Heap.get?_push_of_some _ e)) ?g1 ?g2
        case g1 =>
          have g3 : ((s.heap.push (fo w)).push { cls := .type "tuple_iterator", data := .fields #[.ref tu, .int 0 0] }).get? s.heap.objs.size = some (fo w) := Heap.get?_push_of_some _ g0
          exact ⟨[], #[], 0, _, setTR_fresh g3, Got.zero ks⟩
        case g2 =>
          intro s' L es ep t mv hS hG hkp
          obtain ⟨h1, ge, dr, tk1, os1⟩ := s'
          have e1 : ge = s.gens := mv.gens
          have e2 : dr = s.drawn := mv.drawn
          have e3 : os1 = s.os := mv.os
          subst e1 e2 e3
          show wpAny _ _ _ _ _ _
          refine wpAny_pure ?_
          show wpAny _ _ (ret Value.none) _ _ _
          rw [hz] at hG
          exact wpAny_pure ⟨rfl, h1, tk1, rfl, L, es, ep, t, hS, hG, hkp⟩
      · cases r2 with
        | error e => exact hr2
        | ok f2 =>
          cases f2 with
          | ret r =>
            obtain ⟨rfl, h1, tk1, rfl, hF⟩ := hr2
            repeat (any_goals (first | assumption | wp_step))
            exact hQ _ _ hF
          | _ => exact hr2.elim
    | _ => exact hr.elim
end
end MiS

namespace Mi
open PySem PySem.Spec PyProof.Rows L2
/-! ### len(set(t)) -/
def tLenSetT (K : PySem.W.Frag) (ta : TE) : TE := fun σ H Q => ta σ H fun x H1 => ∃ (l : Addr) (ks : List (Addr × List Int)), x = V.ref l ∧ SqT K H1 l (ks.map fun p => V.ref p.1) ∧ (∀ p ∈ ks, SqT K H1 p.1 (p.2.map V.int)) ∧ ks.length < 64 ∧
  ∀ m : List (List Int), m.Nodup → (∀ x, x ∈ m ↔ x ∈ ks.map (·.2)) → Q (.int m.length) H1
section
variable {X : Cx}
theorem pe_lenSetT {a : Expr} {ta : TE} {p p2 q pos : Pos} (hc : X.calm = true) (hu : X.A.units + 64 < cLine) (hg : Gl X "len") (hm : X.mg "len" = none) (hg2 : Gl X "set") (hm2 : X.mg "set" = none) (ha : PE X a ta)
    (na : starEach [a] X.env = (false, eval a X.env) :: starEach [] X.env := by rfl) : PE X (.Call (.Name "len" p) [.Call (.Name "set" p2) [a] [] q] [] pos) (tLenSetT X.K ta) := by
  refine ⟨fun pins s σ H Q I h => ?_⟩
  refine Call_ (ld_blt I hg hm PySem.boot_len (PyProof.Rows.callWith_builtin1 (PyProof.Rows.args_cons ?_ rfl) rfl rfl))
  refine Call_ (ld_blt I hg2 hm2 PyProof.Rows.boot_set (PyProof.Rows.callWith_type1 (PyProof.Rows.args_cons (thn (ha.run pins s σ H _ I h) fun v s1 ⟨x, H1, I1, r1, l, ks, e, hq, hk, hf, q1⟩ => PyProof.Rows.args_nil ?_) na) na rfl))
  subst e
  cases r1
  obtain ⟨its, rv, pl, hz⟩ := I1.tuple hq
  refine MiS.set_tuple (P := X.prog) (w := X.w) ks (I1.ok.hd hc) (show s1.heap.IsTuple l its.toArray from pl) (by simpa using refs_of_vals rv) (fun p hp => I1.isT (hk p hp)) hf (by omega) fun h' tk ⟨L, es, ep, t, R, G, k⟩ => PyProof.Rows.args_nil ?_
  have I2 : Inv X pins σ H1 { s1 with heap := h', toks := tk } := I1.kept k
  obtain ⟨o, ho, hex, hd⟩ := R.ob
  have hsz := SetTR.size (s := { s1 with heap := h', toks := tk }) R
  have hlL : L.length < 64 := R.few
  have hfit : (es.size : Int) < 2 ^ 63 := by rw [hsz]; omega
  refine call_len_set ho hex hd (SetTR.fits (s := { s1 with heap := h', toks := tk }) R) hfit ⟨.int es.size, H1, I2.tok _, ⟨_, rfl⟩, ?_⟩
  have := q1 (L.map (·.2)) R.nd fun x => ⟨fun hx => ?_, fun hx => ?_⟩
  · rw [List.length_map, ← hsz] at this
    exact this
  · obtain ⟨y, hy, rfl⟩ := List.mem_map.mp hx
    exact List.mem_map.mpr ⟨y, List.mem_of_mem_take (G.sub y hy), rfl⟩
  · obtain ⟨y, hy, rfl⟩ := List.mem_map.mp hx
    exact G.all y (by rw [List.take_length]; exact hy)
end
/-- the ints of a tuple -/
def tupI : D → Option (List Int)
  | .tup l => intsD l
  | _ => none
open Classical in
/-- how many unlike ones -/
noncomputable def nubN (l : List (List Int)) : Nat := if h : ∃ m : List (List Int), m.Nodup ∧ ∀ x, x ∈ m ↔ x ∈ l then (choose h).length else 0
theorem nubN_eq {l m : List (List Int)} (h1 : m.Nodup) (h2 : ∀ x, x ∈ m ↔ x ∈ l) : nubN l = m.length := by
  have h : ∃ m : List (List Int), m.Nodup ∧ ∀ x, x ∈ m ↔ x ∈ l := ⟨m, h1, h2⟩
  unfold nubN
  rw [dif_pos h]
  obtain ⟨q1, q2⟩ := Classical.choose_spec h
  exact ((List.perm_ext_iff_of_nodup q1 h1).mpr fun x => (q2 x).trans (h2 x).symm).length_eq
def tupsI : List D → Option (List (List Int))
  | [] => some []
  | d :: l => (tupI d).bind fun a => (tupsI l).map fun r => a :: r
noncomputable def lenSetR (d : D) (S1 : Sto) : R D := match d with
  | .tup l => if l.length < 64 then match tupsI l with
    | some m => .ok (.int (nubN m)) S1
    | none => .bad
    else .bad
  | _ => .bad
noncomputable def mLenSet (m : TM) : TM := fun env S => (m env S).bind lenSetR
theorem rps_tupsI {K : PySem.W.Frag} {ρ : Rho} {H : Hp} : ∀ {l : List D} {vs : List V} {m : List (List Int)}, Rps K ρ H l vs → tupsI l = some m → ∃ ks : List (Addr × List Int), vs = ks.map (fun p => V.ref p.1) ∧ (∀ p ∈ ks, SqT K H p.1 (p.2.map V.int)) ∧ ks.map (·.2) = m
  | [], _, _, h, e => by cases h; cases e; exact ⟨[], rfl, by simp, rfl⟩
  | d :: l, _, m, h, e => by
    obtain ⟨v, r, rfl, h1, h2⟩ := h
    unfold tupsI at e
    cases hd : tupI d with
    | none => rw [hd] at e; cases e
    | some a =>
      cases hl : tupsI l with
      | none => rw [hd, hl] at e; cases e
      | some r' =>
        rw [hd, hl] at e
        cases e
        obtain ⟨ks, e1, e2, e3⟩ := rps_tupsI h2 hl
        cases d with
        | tup il =>
          obtain ⟨p, vs, rfl, h3, h4⟩ := h1
          have e4 := Rps.ints h4 hd
          refine ⟨(p, a) :: ks, by rw [e1]; rfl, fun x hx => ?_, by simp [e3]⟩
          rcases List.mem_cons.mp hx with z | z
          · rw [z]
            show SqT K H p (a.map V.int)
            rw [← e4]; exact h3.sq
          · exact e2 x z
        | _ => cases hd
section
variable {X : Cx} {W : WX}
theorem d_lenSet {a : Expr} {m : TM} {p p2 q pos : Pos} (hc : X.calm = true) (hu : X.A.units + 65 < cLine) (hg : Gl X "len") (hm : X.mg "len" = none) (hg2 : Gl X "set") (hm2 : X.mg "set" = none) (ha : DE X W a m)
    (na : starEach [a] X.env = (false, eval a X.env) :: starEach [] X.env := by rfl) : DE X W (.Call (.Name "len" p) [.Call (.Name "set" p2) [a] [] q] [] pos) (mLenSet m) :=
  ⟨PE.imp (pe_lenSetT hc (by omega) hg hm hg2 hm2 ha.p na) fun σ H Q ⟨ρ, S, env, hS, hE, h⟩ => Post.bindK hS hE h fun x H1 ρ1 S1 d hS1 hE1 st1 r1 h1 => by
    unfold lenSetR at h1
    split at h1
    · rename_i l
      split at h1
      · rename_i hl
        split at h1
        · rename_i m' hm'
          obtain ⟨pa, vs, rfl, h3, h4⟩ := r1
          obtain ⟨ks, e1, e2, e3⟩ := rps_tupsI h4 hm'
          refine ⟨pa, ks, rfl, e1 ▸ h3.sq, e2, ?_, fun mm n1 n2 => ?_⟩
          · have := h4.length
            rw [e1, List.length_map] at this
            omega
          · have := nubN_eq n1 (l := m') (by rw [← e3]; exact n2)
            rw [← this]
            exact h1 ρ1 H1 _ hS1 .refl rfl
        · exact h1.elim
      · exact h1.elim
    · exact h1.elim⟩
end
theorem nodup_le {α : Type} : ∀ {m l : List α}, m.Nodup → (∀ x ∈ m, x ∈ l) → m.length ≤ l.length
  | [], _, _, _ => Nat.zero_le _
  | x :: m, l, h1, h2 => by
    obtain ⟨u, v, rfl⟩ := List.append_of_mem (h2 x List.mem_cons_self)
    obtain ⟨n1, n2⟩ := List.nodup_cons.mp h1
    have := nodup_le (l := u ++ v) n2 fun y hy => by
      have := h2 y (List.mem_cons_of_mem _ hy)
      simp at this ⊢
      rcases this with z | z | z
      · exact .inl z
      · subst z; exact absurd hy n1
      · exact .inr z
    simp at this ⊢
    omega
theorem dup_less {α : Type} : ∀ {l : List α}, ¬ l.Nodup → ∃ l' : List α, l'.length < l.length ∧ ∀ x, x ∈ l' ↔ x ∈ l
  | [], h => absurd List.nodup_nil h
  | a :: t, h => by
    by_cases ha : a ∈ t
    · refine ⟨t, by simp, fun x => ?_⟩
      simp
      exact fun e => e ▸ ha
    · obtain ⟨t', h1, h2⟩ := dup_less (l := t) fun z => h (List.nodup_cons.mpr ⟨ha, z⟩)
      exact ⟨a :: t', by simpa using h1, fun x => by simp [h2 x]⟩
theorem nodup_len {l m : List (List Int)} (h1 : m.Nodup) (h2 : ∀ x, x ∈ m ↔ x ∈ l) : m.length = l.length ↔ l.Nodup := by
  constructor
  · intro h
    refine Classical.byContradiction fun hn => ?_
    obtain ⟨l', q1, q2⟩ := dup_less hn
    have := nodup_le h1 (l := l') fun x hx => (q2 x).mpr ((h2 x).mp hx)
    omega
  · intro h
    exact ((List.perm_ext_iff_of_nodup h1 h).mpr h2).length_eq
theorem nub_ex {α : Type} : ∀ l : List α, ∃ m : List α, m.Nodup ∧ ∀ x, x ∈ m ↔ x ∈ l
  | [] => ⟨[], List.nodup_nil, by simp⟩
  | a :: t => by
    obtain ⟨m, h1, h2⟩ := nub_ex t
    by_cases ha : a ∈ m
    · exact ⟨m, h1, fun x => by
        rw [h2]; simp
        exact fun e => e ▸ (h2 a).mp ha⟩
    · exact ⟨a :: m, List.nodup_cons.mpr ⟨ha, h1⟩, fun x => by simp [h2]⟩
theorem nubN_len {l : List (List Int)} : nubN l = l.length ↔ l.Nodup := by
  obtain ⟨m, h1, h2⟩ := nub_ex l
  rw [nubN_eq h1 h2]
  exact nodup_len h1 h2
end Mi
namespace Mi
open PySem PySem.Spec PyProof.Rows L2
/-! ### a if c else b, as a test -/
def bIf (c a b : BM) : BM := fun env S => (c env S).bind fun x S1 => if x = true then a env S1 else b env S1
def tIfT (tc ta tb : TT) : TT := fun σ H Q => tc σ H fun c H1 => if c = true then ta σ H1 Q else tb σ H1 Q
section
variable {X : Cx} {W : WX} {a b c : Expr} {pos : Pos}
theorem pt_ifExp {tc ta tb : TT} (hc : PT X c tc) (ha : PT X a ta) (hb : PT X b tb) : PT X (.IfExp c a b pos) (tIfT tc ta tb) := by
  refine ⟨fun pins s σ H Q I h => isTrue_IfExp (thn (hc.run pins s σ H _ I h) fun d s1 ⟨H1, I1, q1⟩ => ?_)⟩
  cases d with
  | true => exact ha.run pins s1 σ H1 Q I1 q1
  | false => exact hb.run pins s1 σ H1 Q I1 q1
theorem t_if {bc ba bb : BM} (hc : DT X W c bc) (ha : DT X W a ba) (hb : DT X W b bb) : DT X W (.IfExp c a b pos) (bIf bc ba bb) :=
  ⟨PT.imp (pt_ifExp hc.p ha.p hb.p) fun σ H Q ⟨ρ, S, env, hS, hE, h⟩ => Post.bindK hS hE h fun x H1 ρ1 S1 d1 hS1 hE1 st1 r1 h1 => by
    cases r1
    cases x with
    | true => exact ⟨ρ1, S1, env, hS1, hE1, h1⟩
    | false => exact ⟨ρ1, S1, env, hS1, hE1, h1⟩⟩
end
end Mi

namespace Mi
open PySem PySem.Spec PyProof.Rows L2
/-! ### repr(x), x data with dicts too -/
def keyPd : Key → PyData
  | .inl i => .int i
  | .inr x => .str x
mutual
def D.pd : D → PyData
  | .non => .none
  | .bl b => .bool b
  | .int i => .int i
  | .str x => .str x
  | .tup l => .tuple (D.pds l)
  | .ftp l => .tuple (D.pds l)
  | .lst l => .list (D.pds l)
  | .wls l => .list (D.pds l)
  | .dic ks l => .dict ((ks.map keyPd).zip (D.pds l))
  | .loc _ => .none
  | .gl _ => .none
  | .ty _ => .none
def D.pds : List D → List PyData
  | [] => []
  | d :: l => D.pd d :: D.pds l
end
mutual
def D.rd : D → Bool
  | .non => true
  | .bl _ => true
  | .int _ => true
  | .str _ => true
  | .tup l => D.rds l
  | .ftp l => D.rds l
  | .lst l => D.rds l
  | .wls l => D.rds l
  | .dic _ l => D.rds l
  | .loc _ => false
  | .gl _ => false
  | .ty _ => false
def D.rds : List D → Bool
  | [] => true
  | d :: l => D.rd d && D.rds l
end
theorem pds_length : ∀ l : List D, (D.pds l).length = l.length
  | [] => rfl
  | _ :: l => by simp [D.pds, pds_length l]
/-- a value that can be shown -/
structure Shw (P : Program) (w : World) (h : Heap) (u : Value) (d : PyData) : Prop where
  ex : ∃ bs as, ReadAtMost h d.depth bs ∧ ReprK P w bs h d.depth u d.shown ∧ Reads h u d as
  way : ∀ a, u = .ref a → ∃ T idr, ShowsBy P w h a d T idr
structure Shws (P : Program) (w : World) (h : Heap) (us : List Value) (ds : List PyData) : Prop where
  ex : ∃ bs as, ReadAtMost h (PyData.depthAll ds) bs ∧ ReprAllK P w bs h (PyData.depthAll ds) us (PyData.shownAll ds) ∧ ReadsAll h us ds as
section
variable {P : Program} {w : World} {h : Heap}
theorem Shws.nil : Shws P w h [] [] := ⟨⟨[], [], (fun _ z => nomatch z), ReprAllK.nil, ReadsAll.nil⟩⟩
theorem Shws.cons {u : Value} {us : List Value} {d : PyData} {ds : List PyData} (a : Shw P w h u d) (b : Shws P w h us ds) : Shws P w h (u :: us) (d :: ds) := by
  obtain ⟨b1, a1, r1, k1, q1⟩ := a.ex
  obtain ⟨b2, a2, r2, k2, q2⟩ := b.ex
  have l1 : d.depth ≤ PyData.depthAll (d :: ds) := Nat.le_max_left _ _
  have l2 : PyData.depthAll ds ≤ PyData.depthAll (d :: ds) := Nat.le_max_right _ _
  exact ⟨⟨b1 ++ b2, a1 ++ a2, (r1.mono l1).append (r2.mono l2), ReprAllK.cons ((k1.more fun c hc => List.mem_append_left _ hc).level_le l1) (k2.more_le (fun c hc => List.mem_append_right _ hc) l2), ReadsAll.cons q1 q2⟩⟩
theorem Shw.flat {u : Value} {d : PyData} (hd : d.depth = 0) (k : ReprIs P w u d.shown) (r : Reads h u d []) (hf : ∀ a, u ≠ .ref a := by intro a e; cases e) : Shw P w h u d := by
  refine ⟨⟨[], [], (fun _ z => nomatch z), ?_, r⟩, fun a e => absurd e (hf a)⟩
  rw [hd]; exact .of_is k _ _ _
theorem Shw.tuple {a : Addr} {o : Obj} {its : Array Value} {n : Nat} {ds : List PyData} (ha : h.get? a = some o) (hc : o.cls = .type "tuple") (hd : o.data = .seq its n) (sw : Shws P w h its.toList ds) (hz : (tupleText (PyData.shownAll ds)).length ≤ sizeLine) : Shw P w h (.ref a) (.tuple ds) := by
  obtain ⟨bs, as, r1, k1, q1⟩ := sw.ex
  have r : Reads h (.ref a) (.tuple ds) as := .tuple ha hc hd q1
  have na : a ∉ bs := not_mem_of_deeper r (by simp only [PyData.depth]; omega) r1
  refine ⟨⟨a :: bs, as, ReadAtMost.cons r (by simp only [PyData.depth]; omega) r1, ?_, r⟩, ?_⟩
  · simp only [PyData.depth, PyData.shown]
    exact ReprK.tuple ha hc hd na k1
  · rintro _ ⟨⟩
    refine ⟨"tuple", "tuple.__repr__", F.slot_tuple_repr, F.slot_tuple_str, F.slot_tuple_format, fun s hk => ⟨o, hk _ _ ha, hc⟩, ?_⟩
    intro A E s Q hg hu hk hQ
    simp only [PyData.depth] at hu
    simp only [PyData.shown] at hQ
    exact call_tuple_reprK ha hc hd na k1 hg (fun b _ => Clear.nil b) hu hk hQ hz
theorem Shw.list {a : Addr} {o : Obj} {its : Array Value} {n : Nat} {ds : List PyData} (ha : h.get? a = some o) (hc : o.cls = .type "list") (hd : o.data = .seq its n) (sw : Shws P w h its.toList ds) (hz : (listText (PyData.shownAll ds)).length ≤ sizeLine) : Shw P w h (.ref a) (.list ds) := by
  obtain ⟨bs, as, r1, k1, q1⟩ := sw.ex
  have r : Reads h (.ref a) (.list ds) (a :: as) := .list ha hc hd q1
  have na : a ∉ bs := not_mem_of_deeper r (by simp only [PyData.depth]; omega) r1
  refine ⟨⟨a :: bs, a :: as, ReadAtMost.cons r (by simp only [PyData.depth]; omega) r1, ?_, r⟩, ?_⟩
  · simp only [PyData.depth, PyData.shown]
    obtain ⟨l⟩ := its
    cases l with
    | nil =>
      cases q1
      simp only [PyData.shownAll, listText_nil]
      exact ReprK.listEmpty ha hc hd
    | cons x l => exact ReprK.list ha hc hd na (by simpa using k1.length_eq) fun i y e => k1.item i y (by simpa using e)
  · rintro _ ⟨⟩
    refine ⟨"list", "list.__repr__", F.slot_list_repr.toG, F.slot_list_str, F.slot_list_format, fun s hk => ⟨o, hk _ _ ha, hc⟩, ?_⟩
    intro A E s Q hg hu hk hQ
    simp only [PyData.depth] at hu
    simp only [PyData.shown] at hQ
    obtain ⟨l⟩ := its
    cases l with
    | nil =>
      cases q1
      simp only [PyData.shownAll, listText_nil] at hQ
      exact call_list_repr_empty ⟨o, hk _ _ ha, hc⟩ (hk _ _ ha) hd (hQ s.heap _ _ fun _ _ e => e)
    | cons x l => exact call_list_reprK ha hc hd na (by simpa using k1.length_eq) (fun i y e => k1.item i y (by simpa using e)) hg (fun b _ => Clear.nil b) hu hk hQ hz
theorem Shw.dict {a : Addr} {o : Obj} {es : Array DictEntry} {n : Nat} {kvs : List (PyData × PyData)} (ha : h.get? a = some o) (hc : o.cls = .type "dict") (hd : o.data = .dict es n) (hs : (a == sysModules) = false)
    (s1 : Shws P w h (es.toList.map (·.key)) (kvs.map (·.1))) (s2 : Shws P w h (es.toList.map (·.val)) (kvs.map (·.2))) (hz : (dictText (PyData.shownKv kvs)).length ≤ sizeLine) : Shw P w h (.ref a) (.dict kvs) := by
  obtain ⟨b1, a1, r1, k1, q1⟩ := s1.ex
  obtain ⟨b2, a2, r2, k2, q2⟩ := s2.ex
  have l1 := PyData.depthAll_keys_le kvs
  have l2 := PyData.depthAll_vals_le kvs
  have r : Reads h (.ref a) (.dict kvs) (a :: a1 ++ a2) := .dict ha hc hd q1 q2
  have rb : ReadAtMost h (PyData.depthKv kvs) (b1 ++ b2) := (r1.mono l1).append (r2.mono l2)
  have na : a ∉ b1 ++ b2 := not_mem_of_deeper r (by simp only [PyData.depth]; omega) rb
  refine ⟨⟨a :: (b1 ++ b2), _, ReadAtMost.cons r (by simp only [PyData.depth]; omega) rb, ?_, r⟩, ?_⟩
  · simp only [PyData.depth, PyData.shown, PyData.shownKv_eq]
    exact ReprK.dict ha hc hd hs na (ReprEntriesK.of_two es.toList _ _ (k1.more_le (fun c hc => List.mem_append_left _ hc) l1) (k2.more_le (fun c hc => List.mem_append_right _ hc) l2))
  · rintro _ ⟨⟩
    refine ⟨"dict", "dict.__repr__", F.slot_dict_repr, F.slot_dict_str, F.slot_dict_format, fun s hk => ⟨o, hk _ _ ha, hc⟩, ?_⟩
    intro A E s Q hg hu hk hQ
    simp only [PyData.depth] at hu
    simp only [PyData.shown, PyData.shownKv_eq] at hQ
    exact call_dict_reprK ha hc hd hs na (ReprEntriesK.of_two es.toList _ _ (k1.more_le (fun c hc => List.mem_append_left _ hc) l1) (k2.more_le (fun c hc => List.mem_append_right _ hc) l2)) hg (fun b _ => Clear.nil b) hu hk hQ (by rw [← PyData.shownKv_eq]; exact hz)
theorem keys_shw : ∀ {es : List DictEntry} {kvs : List (Key × Value)}, Pairs (mixKind P w) es kvs → (∀ t ∈ PyData.shownAll (kvs.map fun p => keyPd p.1), t.length ≤ sizeLine) → PyData.showableAll (kvs.map fun p => keyPd p.1) = true → Shws P w h (es.map (·.key)) (kvs.map fun p => keyPd p.1)
  | _, _, .nil, _, _ => .nil
  | _, _, .cons (e := e) (kv := kv) (es := es) (kvs := kvs) h1 h2 h3, hl, hs => by
    have hs' : (keyPd kv.1).showable = true ∧ PyData.showableAll (kvs.map fun p => keyPd p.1) = true := by simpa [PyData.showableAll] using hs
    refine Shws.cons (u := e.key) (d := keyPd kv.1) ?_ (keys_shw h3 (fun t ht => hl t (by simp only [List.map_cons, PyData.shownAll]; exact List.mem_cons_of_mem _ ht)) hs'.2)
    have hl1 := hl (keyPd kv.1).shown (by simp only [List.map_cons, PyData.shownAll]; exact List.mem_cons_self)
    rcases keyIs_shape (show keyIs kv.1 e.key = true from h1) with ⟨i, t, e1, e2⟩ | ⟨x, t, e1, e2⟩
    · rw [e1] at hs' ⊢
      rw [e2]
      refine .flat rfl ?_ (.int i t)
      simp only [keyPd, PyData.shown]
      exact ReprIs.int t (by simpa [keyPd, PyData.showable] using hs'.1)
    · rw [e1] at hl1 ⊢
      rw [e2]
      refine .flat rfl ?_ (.str x t)
      simp only [keyPd, PyData.shown] at hl1 ⊢
      exact ReprIs.str x t hl1
theorem key_all : ∀ {ds : List PyData} {t : Str}, (∀ t ∈ PyData.shownAll ds, t.length ≤ sizeLine) → ∀ d ∈ ds, d.shown.length ≤ sizeLine
  | [], _, _, d, hd => by cases hd
  | e :: ds, t, h, d, hd => by
    rcases List.mem_cons.mp hd with rfl | hd
    · exact h _ (by simp only [PyData.shownAll]; exact List.mem_cons_self)
    · exact key_all (t := t) (fun t ht => h t (by simp only [PyData.shownAll]; exact List.mem_cons_of_mem _ ht)) d hd
theorem kv_vals {kvs : List (Key × V)} : ∀ {vs : List (Key × Value)}, KV kvs vs → Vals (kvs.map (·.2)) (vs.map (·.2)) ∧ vs.map (·.1) = kvs.map (·.1) := by
  induction kvs with
  | nil => intro vs h; cases h; exact ⟨.nil, rfl⟩
  | cons p kvs ih =>
    intro vs h
    cases h with
    | cons r t =>
      obtain ⟨h1, h2⟩ := ih t
      exact ⟨.cons r.2 h1, by simp [h2, r.1]⟩
theorem pairs_vals {es : List DictEntry} {kvs : List (Key × Value)} (h : Pairs (mixKind P w) es kvs) : es.map (·.val) = kvs.map (·.2) := by
  induction h with
  | nil => rfl
  | cons _ e _ ih => simp [e, ih]
theorem zipF {α β : Type} : ∀ {l : List α} {m : List β}, l.length = m.length → (l.zip m).map (·.1) = l
  | [], [], _ => rfl
  | a :: l, b :: m, h => by simp [zipF (l := l) (m := m) (by simpa using h)]
theorem zipS {α β : Type} : ∀ {l : List α} {m : List β}, l.length = m.length → (l.zip m).map (·.2) = m
  | [], [], _ => rfl
  | a :: l, b :: m, h => by simp [zipS (l := l) (m := m) (by simpa using h)]
end
section
variable {X : Cx} {pins : List (Addr × Obj)} {σ : L2.St} {H : Hp} {s : Shared} {ρ : Rho}
mutual
theorem Rp.shw (I : Inv X pins σ H s) : ∀ (d : D) (v : V) (u : Value), Rp X.K ρ H d v → RelV v u → d.rd = true → d.pd.showable = true → d.pd.shown.length ≤ sizeLine → Shw X.prog X.w s.heap u d.pd
  | .non, v, u, h, r, _, _, _ => by
    cases h; cases r
    refine .flat rfl ?_ .none
    simp only [D.pd, PyData.shown]; exact ReprIs.none
  | .bl b, v, u, h, r, _, _, _ => by
    cases h; cases r
    refine .flat rfl ?_ (.bool b)
    simp only [D.pd, PyData.shown]; exact ReprIs.bool b
  | .int i, v, u, h, r, _, hs, _ => by
    cases h
    obtain ⟨t, rfl⟩ := r
    refine .flat rfl ?_ (.int i t)
    simp only [D.pd, PyData.shown]; exact ReprIs.int t (by simpa [D.pd, PyData.showable] using hs)
  | .str x, v, u, h, r, _, _, hz => by
    cases h
    obtain ⟨t, rfl⟩ := r
    refine .flat rfl ?_ (.str x t)
    simp only [D.pd, PyData.shown] at hz ⊢; exact ReprIs.str x t hz
  | .tup l, v, u, h, r, hr, hs, hz => by
    obtain ⟨p, vs, rfl, h1, h2⟩ := h
    cases r
    obtain ⟨its, rv, ⟨o, ho, hc, n, hd⟩, _⟩ := I.tuple h1.sq
    have hz' : (tupleText (PyData.shownAll (D.pds l))).length ≤ sizeLine := by simpa only [D.pd, PyData.shown] using hz
    exact .tuple ho hc hd (Rps.shw I l vs its h2 rv (by simpa [D.rd] using hr) (by simpa [D.pd, PyData.showable] using hs) fun t ht => Nat.le_trans (tupleText_mem_le ht) hz') hz'
  | .ftp l, v, u, h, r, hr, hs, hz => by
    obtain ⟨p, vs, rfl, h1, h2⟩ := h
    cases r
    obtain ⟨its, rv, ⟨o, ho, hc, n, hd⟩, _⟩ := I.tuple h1.tls.sq
    have hz' : (tupleText (PyData.shownAll (D.pds l))).length ≤ sizeLine := by simpa only [D.pd, PyData.shown] using hz
    exact .tuple ho hc hd (Rps.shw I l vs its h2 rv (by simpa [D.rd] using hr) (by simpa [D.pd, PyData.showable] using hs) fun t ht => Nat.le_trans (tupleText_mem_le ht) hz') hz'
  | .lst l, v, u, h, r, hr, hs, hz => by
    obtain ⟨p, vs, rfl, h1, _, h2⟩ := h
    cases r
    obtain ⟨its, rv, ⟨o, n, ho, hc, _, hd⟩, _⟩ := I.list (SqL.of h1)
    have hz' : (listText (PyData.shownAll (D.pds l))).length ≤ sizeLine := by simpa only [D.pd, PyData.shown] using hz
    exact .list ho hc hd (Rps.shw I l vs its h2 rv (by simpa [D.rd] using hr) (by simpa [D.pd, PyData.showable] using hs) fun t ht => Nat.le_trans (listText_mem_le ht) hz') hz'
  | .wls l, v, u, h, r, hr, hs, hz => by
    obtain ⟨p, vs, rfl, h1, h2⟩ := h
    cases r
    obtain ⟨its, rv, ⟨o, n, ho, hc, _, hd⟩, _⟩ := I.list h1.sq
    have hz' : (listText (PyData.shownAll (D.pds l))).length ≤ sizeLine := by simpa only [D.pd, PyData.shown] using hz
    exact .list ho hc hd (Rps.shw I l vs its h2 rv (by simpa [D.rd] using hr) (by simpa [D.pd, PyData.showable] using hs) fun t ht => Nat.le_trans (listText_mem_le ht) hz') hz'
  | .dic ks l, v, u, h, r, hr, hs, hz => by
    obtain ⟨p, vs, rfl, h1, hl, _, h2⟩ := h
    cases r
    obtain ⟨_, hsys, us, hk, o, es, ep, ho, hx, hd, _, hp, _⟩ := I.hok p _ h1
    obtain ⟨rv, ek⟩ := kv_vals hk
    have lv := h2.length
    have el : ks.length = vs.length := by omega
    rw [zipS el] at rv
    rw [zipF el] at ek
    have e1 : (ks.map keyPd).length = (D.pds l).length := by rw [List.length_map, pds_length]; exact hl
    have hz' : (dictText (PyData.shownKv ((ks.map keyPd).zip (D.pds l)))).length ≤ sizeLine := by simpa only [D.pd, PyData.shown] using hz
    obtain ⟨s1, s2⟩ := PyData.showableKv_split _ (show PyData.showableKv ((ks.map keyPd).zip (D.pds l)) = true by simpa [D.pd, PyData.showable] using hs)
    have z1 : ∀ t ∈ PyData.shownAll (((ks.map keyPd).zip (D.pds l)).map (·.1)), t.length ≤ sizeLine := fun t ht => by
      obtain ⟨q, hq, hlq⟩ := PyData.shownKv_key_le _ t ht
      exact Nat.le_trans hlq (Nat.le_trans (dictText_mem_le hq) hz')
    have z2 : ∀ t ∈ PyData.shownAll (((ks.map keyPd).zip (D.pds l)).map (·.2)), t.length ≤ sizeLine := fun t ht => by
      obtain ⟨q, hq, hlq⟩ := PyData.shownKv_val_le _ t ht
      exact Nat.le_trans hlq (Nat.le_trans (dictText_mem_le hq) hz')
    refine Shw.dict ho hx.1 hd hsys ?_ ?_ hz'
    · rw [zipF e1] at s1 z1 ⊢
      have : ks.map keyPd = us.map fun p => keyPd p.1 := by rw [← ek, List.map_map]; rfl
      rw [this] at s1 z1 ⊢
      exact keys_shw hp z1 s1
    · rw [zipS e1] at s2 z2 ⊢
      rw [pairs_vals hp]
      exact Rps.shw I l vs _ h2 rv (by simpa [D.rd] using hr) s2 z2
  | .loc n, v, u, h, r, hr, _, _ => by simp [D.rd] at hr
  | .gl n, v, u, h, r, hr, _, _ => by simp [D.rd] at hr
  | .ty n, v, u, h, r, hr, _, _ => by simp [D.rd] at hr
theorem Rps.shw (I : Inv X pins σ H s) : ∀ (ds : List D) (vs : List V) (us : List Value), Rps X.K ρ H ds vs → Vals vs us → D.rds ds = true → PyData.showableAll (D.pds ds) = true → (∀ t ∈ PyData.shownAll (D.pds ds), t.length ≤ sizeLine) → Shws X.prog X.w s.heap us (D.pds ds)
  | [], vs, us, h, r, _, _, _ => by cases h; cases r; exact .nil
  | d :: ds, vs, us, h, r, hr, hs, hz => by
    obtain ⟨v, vr, rfl, h1, h2⟩ := h
    cases r with
    | cons r1 r2 =>
      have hr' : d.rd = true ∧ D.rds ds = true := by simpa [D.rds] using hr
      have hs' : d.pd.showable = true ∧ PyData.showableAll (D.pds ds) = true := by simpa [D.pds, PyData.showableAll] using hs
      exact .cons (Rp.shw I d v _ h1 r1 hr'.1 hs'.1 (hz _ (by simp only [D.pds, PyData.shownAll]; exact List.mem_cons_self))) (Rps.shw I ds vr _ h2 r2 hr'.2 hs'.2 fun t ht => hz t (by simp only [D.pds, PyData.shownAll]; exact List.mem_cons_of_mem _ ht))
end
end
noncomputable def reprD : GL := fun S ds => match ds with
  | [d] => if (der S d).rd = true ∧ (der S d).pd.showable = true ∧ (der S d).pd.shown.length ≤ 16777216 ∧ (der S d).pd.depth ≤ 50 then some (.str (der S d).pd.shown) else none
  | _ => none
section
variable {X : Cx} {ρ : Rho} {S : Sto} {H : Hp}
theorem der_shw {pins : List (Addr × Obj)} {σ : L2.St} {s : Shared} (I : Inv X pins σ H s) (hS : SOk X.K ρ S H) {d : D} {x : V} {u : Value} (r1 : Rp X.K ρ H d x) (ru : RelV x u) (c1 : (der S d).rd = true) (c2 : (der S d).pd.showable = true) (c3 : (der S d).pd.shown.length ≤ 16777216) :
    Shw X.prog X.w s.heap u (der S d).pd := by
  cases d with
  | loc n =>
    cases hn : S[n]? with
    | none =>
      have e : der S (.loc n) = .loc n := by simp [der, hn]
      rw [e] at c1; simp [D.rd] at c1
    | some o =>
      cases o with
      | lst l =>
        have e : der S (.loc n) = .lst l := by simp [der, hn]
        rw [e] at c1 c2 c3 ⊢
        obtain ⟨p, rfl, h1⟩ := r1
        obtain ⟨a1, e1, vs, hx, r2⟩ := hS.obj n _ hn
        rw [h1] at e1; cases e1
        cases ru
        obtain ⟨its, rv, ⟨o, m, ho, hc, _, hd⟩, _⟩ := I.list (SqL.of hx)
        have hz' : (listText (PyData.shownAll (D.pds l))).length ≤ sizeLine := by rw [sizeLine16]; simpa only [D.pd, PyData.shown] using c3
        exact .list ho hc hd (Rps.shw I l vs its r2 rv (by simpa [D.rd] using c1) (by simpa [D.pd, PyData.showable] using c2) fun t ht => Nat.le_trans (listText_mem_le ht) hz') hz'
      | _ =>
        have e : der S (.loc n) = .loc n := by simp [der, hn]
        rw [e] at c1; simp [D.rd] at c1
  | _ => exact Rp.shw I _ _ _ r1 ru c1 c2 (by rw [sizeLine16]; exact c3)
theorem cD_repr (hg : X.A.guards = some []) (hu : X.A.units + 64 < cLine) : CallR X (.builtin "repr") (rL X.K reprD) := by
  intro pins s σ H xs us Q I r h
  obtain ⟨ρ, S, ds, z, hS, rr, e, q⟩ := h
  match ds, rr with
  | [], _ => cases e
  | _ :: _ :: _, _ => cases e
  | [d], rr =>
    obtain ⟨x, _, rfl, r1, rfl⟩ := rr
    obtain ⟨u, rfl, ru⟩ := vals1 r
    unfold reprD at e
    simp only at e
    split at e
    · rename_i hc
      cases e
      obtain ⟨c1, c2, c3, c4⟩ := hc
      have sh := der_shw I hS r1 ru c1 c2 c3
      have fin : ∀ h' tk t, (∀ b o, s.heap.get? b = some o → h'.get? b = some o) → EP X pins σ Q (.str (der S d).pd.shown t) { s with heap := h', toks := tk } := fun h' tk t k =>
        ⟨.str _, H, I.kept k, ⟨t, rfl⟩, q ρ H _ hS .refl rfl⟩
      obtain ⟨_, as, _, _, rd⟩ := sh.ex
      have way := sh.way
      clear sh q
      generalize (der S d).pd = pd at *
      have ref : ∀ a, u = .ref a → wpAny (model X.prog X.w) X.A (call (.builtin "repr") [u]) (EP X pins σ Q) X.xe s := fun a e => by
        subst e
        obtain ⟨T, idr, B⟩ := way a rfl
        exact call_repr_slot (by omega) (B.typeIs s fun _ _ z => z) B.slotRepr (B.call X.A.in1 _ s _ hg (by show X.A.units + 1 + _ < cLine; omega) (fun _ _ z => z) fun h' t tk k => ⟨_, _, rfl, fin h' tk t k⟩)
      cases rd with
      | none =>
        simp only [PyData.shown] at fin
        exact PySem.P.repr_of_none (fin s.heap _ _ fun _ _ z => z)
      | bool b =>
        simp only [PyData.shown] at fin
        exact PySem.P.repr_of_bool (fin s.heap _ _ fun _ _ z => z)
      | int i t =>
        simp only [PyData.shown] at fin
        exact PySem.P.repr_of_int (by simpa [PyData.showable] using c2) (fin s.heap _ _ fun _ _ z => z)
      | str y t =>
        simp only [PyData.shown] at fin c3
        exact PySem.P.repr_of_str (fin s.heap _ _ fun _ _ z => z) (by rw [sizeLine16]; exact c3)
      | list => exact ref _ rfl
      | tuple => exact ref _ rfl
      | dict => exact ref _ rfl
    · cases e
theorem bt_repr : bootBuiltins "repr" = some (.builtin "repr") := by decide +kernel
end
end Mi

namespace Mi
open PySem PySem.Spec PyProof.Rows L2
/-! max, min of one list of ints; a + b of two lists, as a fresh list or as a list that may change -/
def max1D : GL := fun S ds => match ds with
  | [d] => (lstD S d).bind fun l => (intsD l).bind fun ns => ns.max?.map .int
  | _ => none
def min1D : GL := fun S ds => match ds with
  | [d] => (lstD S d).bind fun l => (intsD l).bind fun ns => ns.min?.map .int
  | _ => none
def ownD (S : Sto) : D → Option (List D)
  | .lst l => some l
  | .loc n => match S[n]? with
    | some (.lst l) => some l
    | _ => none
  | _ => none
def catL (S : Sto) (a b : D) : Option (List D) := (ownD S a).bind fun l => (ownD S b).bind fun m => if l.length + m.length ≤ 16777216 then some (l ++ m) else none
def catD : G2 := fun S a b => (catL S a b).map .lst
def mAddN (ma mb : TM) : TM := fun env S => (ma env S).bind fun a S1 => (mb env S1).bind fun b S2 => match catL S2 a b with
  | some l => R.new (.lst l) S2
  | none => .bad
section
variable {X : Cx}
theorem cD_max1 (hc : X.calm = true) : CallR X (.builtin "max") (rL X.K max1D) := by
  intro pins s σ H xs us Q I r ⟨ρ, S, ds, z, hS, rd, e, q⟩
  unfold max1D at e
  split at e
  · rename_i d
    cases hl : lstD S d with
    | none => rw [hl] at e; cases e
    | some l =>
      rw [hl] at e
      cases hb : intsD l with
      | none => simp [hb] at e
      | some bs =>
        simp only [Option.bind_some, hb] at e
        cases hm : bs.max? with
        | none => simp [hm] at e
        | some m =>
          simp only [hm, Option.map_some, Option.some.injEq] at e
          subst e
          obtain ⟨v, rfl, h1⟩ := rd.dest1
          obtain ⟨p, vs, rfl, h2, h3⟩ := der_lst hS h1 hl
          have := h3.ints hb; subst this
          have hm' := List.max?_eq_some_iff.mp hm
          refine cr_max hc pins s σ H _ us Q I r ⟨p, bs, rfl, h2, List.length_pos_of_mem hm'.1, fun m2 i2 a2 => ?_⟩
          have : m2 = m := Int.le_antisymm (hm'.2 m2 i2) (a2 m hm'.1)
          exact this ▸ q ρ H _ hS .refl rfl
  · cases e
theorem cD_min1 (hc : X.calm = true) : CallR X (.builtin "min") (rL X.K min1D) := by
  intro pins s σ H xs us Q I r ⟨ρ, S, ds, z, hS, rd, e, q⟩
  unfold min1D at e
  split at e
  · rename_i d
    cases hl : lstD S d with
    | none => rw [hl] at e; cases e
    | some l =>
      rw [hl] at e
      cases hb : intsD l with
      | none => simp [hb] at e
      | some bs =>
        simp only [Option.bind_some, hb] at e
        cases hm : bs.min? with
        | none => simp [hm] at e
        | some m =>
          simp only [hm, Option.map_some, Option.some.injEq] at e
          subst e
          obtain ⟨v, rfl, h1⟩ := rd.dest1
          obtain ⟨p, vs, rfl, h2, h3⟩ := der_lst hS h1 hl
          have := h3.ints hb; subst this
          have hm' := List.min?_eq_some_iff.mp hm
          refine cr_min hc pins s σ H _ us Q I r ⟨p, bs, rfl, h2, List.length_pos_of_mem hm'.1, fun m2 i2 a2 => ?_⟩
          have : m2 = m := Int.le_antisymm (a2 m hm'.1) (hm'.2 m2 i2)
          exact this ▸ q ρ H _ hS .refl rfl
  · cases e
theorem own_at {K : PySem.W.Frag} {ρ : Rho} {S : Sto} {H : Hp} {d : D} {v : V} {l : List D} (hS : SOk K ρ S H) (h : Rp K ρ H d v) (e : ownD S d = some l) : ∃ p vs, v = .ref p ∧ H p = some (.lst vs) ∧ Rps K ρ H l vs := by
  unfold ownD at e
  split at e
  · cases e
    obtain ⟨p, vs, e1, h1, _, h2⟩ := h
    exact ⟨p, vs, e1, h1, h2⟩
  · rename_i n
    split at e
    · rename_i l' hn
      cases e
      obtain ⟨p, e1, h1⟩ := h
      obtain ⟨a1, e2, xs, hx, r1⟩ := hS.obj n _ hn
      rw [h1] at e2; cases e2
      exact ⟨p, xs, e1, hx, r1⟩
    · cases e
  · cases e
theorem cat_at {K : PySem.W.Frag} {ρ : Rho} {S : Sto} {H : Hp} {a b : D} {x y : V} {l : List D} (hS : SOk K ρ S H) (ra : Rp K ρ H a x) (rb : Rp K ρ H b y) (e : catL S a b = some l) :
    ∃ p1 p2 xs ys, x = .ref p1 ∧ y = .ref p2 ∧ H p1 = some (.lst xs) ∧ H p2 = some (.lst ys) ∧ xs.length + ys.length ≤ sizeLine ∧ Rps K ρ H l (xs ++ ys) := by
  unfold catL at e
  cases h1 : ownD S a with
  | none => simp [h1] at e
  | some l1 =>
    cases h2 : ownD S b with
    | none => simp [h1, h2] at e
    | some l2 =>
      simp only [h1, h2, Option.bind_some] at e
      split at e
      · rename_i hl
        cases e
        obtain ⟨p1, xs, rfl, g1, r1⟩ := own_at hS ra h1
        obtain ⟨p2, ys, rfl, g2, r2⟩ := own_at hS rb h2
        exact ⟨p1, p2, xs, ys, rfl, rfl, g1, g2, by rw [sizeLine16, ← r1.length, ← r2.length]; exact hl, r1.append r2⟩
      · cases e
theorem opD_cat : OpR X (binaryOp .Add) (rD X.K catD) := by
  intro pins s σ H x y v u Q I rx ry ⟨ρ, S, a, b, z, hS, ra, rb, e, q⟩
  unfold catD at e
  cases hc : catL S a b with
  | none => simp [hc] at e
  | some l =>
    simp only [hc, Option.map_some, Option.some.injEq] at e
    subst e
    obtain ⟨p1, p2, xs, ys, rfl, rfl, g1, g2, hz, r⟩ := cat_at hS ra rb hc
    exact op_cat pins s σ H _ _ v u Q I rx ry ⟨p1, p2, xs, ys, rfl, rfl, g1, g2, hz, fun p hp => new_lst hS r hp q⟩
theorem d_addN {W : WX} {a b : Expr} {ma mb : TM} {pos : Pos} (ha : DE X W a ma) (hb : DE X W b mb) : DE X W (.BinOp a .Add b pos) (mAddN ma mb) :=
  ⟨PE.imp (pe_op op_cat ha.p hb.p) fun σ H Q ⟨ρ, S, env, hS, hE, h⟩ => by
    refine Post.bindK hS hE h fun x H1 ρ1 S1 d1 hS1 hE1 st1 r1 h1 => ?_
    refine Post.bindK hS1 hE1 h1 fun y H2 ρ2 S2 d2 hS2 hE2 st2 r2 h2 => ?_
    have r1' := r1.step hS1 st2
    cases hc : catL S2 d1 d2 with
    | none => rw [hc] at h2; exact h2.elim
    | some l =>
      rw [hc] at h2
      obtain ⟨p1, p2, xs, ys, rfl, rfl, g1, g2, hz, r⟩ := cat_at hS2 r1' r2 hc
      exact ⟨p1, p2, xs, ys, rfl, rfl, g1, g2, hz, fun p hp => new_loc hS2 r hp h2⟩⟩
end
end Mi

namespace Mi
open PySem PySem.Spec PyProof.Rows L2
open PySem.SeqAt PySem.MeetsSeq AutoSeq1
/-! any value != a text -/
theorem str_ne_dict (b : Str) (u : Tok) (l : Addr) (c : Value) (es : Array DictEntry) (ep : Nat) (dd : Option Addr) (sl : Array (Option Value)) :
    Meets (Builtin.«str.__ne__» ⟨[.str b u, .ref l], []⟩) (fun _ R s => s.heap.get? l = some { cls := c, dict := dd, data := .dict es ep, slots := sl } ∧ R (.ok (.ret .notImplemented)) s) :=
  .of_wp fun prog w A R s h => by obtain ⟨hp, g, d, tk, os⟩ := s; obtain ⟨hl, h⟩ := h; wp_walk using wpAny_loadPart' hl, wpAny_load hl; exact ⟨_, rfl, h⟩
section
variable {X : Cx}
theorem ne_dict_str {K : Type} [DecidableEq K] {prog : Program} {w : World} {A : Around} {s : Shared} {knd : PySem.KeyKind prog w K} {a : Addr} {kvs : List (K × Value)} (da : s.heap.DictOf knd a kvs) (b : Str) (u : Tok) (hu : A.units < cLine) : RcNeAt A s (.ref a) (.str b u) true := fun prog w E Q h => by
  obtain ⟨⟨cls, dd, data, sl⟩, es, ep, ho, ⟨hc, _⟩, hd, _⟩ := da
  simp only at hd
  subst hd
  refine rc_ne_decline_or (k := false) (Ta := "dict") (ida := "dict.__ne__") ⟨_, ho, hc⟩ (typeIs_str s b u) (by decide) F.sub_str_dict F.slot_dict_ne F.slot_str_ne_refl (fun Q' hq => ?_)
    (fun _ hq => call_meets F.slot_str_ne_refl (typeIs_str s b u) F.entry_str_ne (F.args_str_ne_2 _ _) (str_ne_dict b u a cls es ep dd sl) ⟨ho, hq⟩)
    (fun _ hq => wpAny_of_eq (rfl : isSame (.ref a) (.str b u) = pure false) hq) (.inr hu) h
  refine wpAny_call_entry PySem.F.slot_dict_ne ⟨_, ho, hc⟩ PySem.F.entry_dict_ne ?_ (PySem.F.args_dict_ne_2 _ _)
  show wpAny _ _ (Builtin.Dict.dictSlotArgs "__ne__" ⟨[.ref a, .str b u], []⟩ >>= _) _ _ s
  refine wpAny_bind ?_
  unfold Builtin.Dict.dictSlotArgs
  refine wpAny_bind (wpAny_notOrdered_dict ⟨_, ho, hc⟩ ?_)
  show wpAny _ _ (pure (Value.ref a, Value.str b u)) _ _ s
  refine wpAny_pure ?_
  refine wpAny_bind (wpAny_isInstance (T := "str") (typeIs_str s b u) PySem.F.sub_str_dict ?_)
  simp only [Bool.not_false, if_true]
  exact wpAny_bind (wpAny_rule (wpAny_pure ⟨_, rfl, hq⟩))
def neSB (a : D) (y : Str) : Option Bool := match a with
  | .str x => some (!decide (x = y))
  | .non => some true
  | .bl _ => some true
  | .int _ => some true
  | .tup _ => some true
  | .lst _ => some true
  | .dic _ _ => some true
  | _ => none
def neSD : G2 := fun _ a b => match b with
  | .str y => (neSB a y).map .bl
  | _ => none
theorem opD_neS (hu : X.A.units + 64 < cLine) : OpR X (compareOp .NotEq) (rD X.K neSD) := by
  intro pins s σ H x y v u Q I rx ry ⟨ρ, S, a, b, z, hS, ra, rb, e, q⟩
  unfold neSD at e
  split at e
  · rename_i y'
    cases rb
    have hu0 : X.A.units < cLine := by omega
    unfold neSB at e
    split at e
    · cases e; cases ra
      refine op_ne pins s σ H _ _ v u Q I rx ry ⟨rfl, ?_⟩
      have := q ρ H _ hS .refl rfl
      simpa using this
    · cases e; cases ra
      exact op_ne pins s σ H _ _ v u Q I rx ry ⟨rfl, q ρ H _ hS .refl rfl⟩
    · cases e; cases ra
      exact op_ne pins s σ H _ _ v u Q I rx ry ⟨rfl, q ρ H _ hS .refl rfl⟩
    · cases e; cases ra
      exact op_ne pins s σ H _ _ v u Q I rx ry ⟨rfl, q ρ H _ hS .refl rfl⟩
    · cases e
      obtain ⟨p1, xs, rfl, h1, r1⟩ := ra
      obtain ⟨t, rfl⟩ := ry
      cases rx
      obtain ⟨its, r, ht, hz⟩ := I.tuple h1.sq
      exact RcNeAt.tuple_str _ _ ht hu0 X.prog X.w _ _ ⟨.bl true, H, I, rfl, q ρ H _ hS .refl rfl⟩
    · cases e
      obtain ⟨p1, xs, rfl, h1, _, r1⟩ := ra
      obtain ⟨t, rfl⟩ := ry
      cases rx
      obtain ⟨its, r, ht, hz⟩ := I.list (SqL.of h1)
      exact RcNeAt.list_str _ _ ht.isList hu0 X.prog X.w _ _ ⟨.bl true, H, I, rfl, q ρ H _ hS .refl rfl⟩
    · cases e
      obtain ⟨p1, xs, rfl, h1, _, _, r1⟩ := ra
      obtain ⟨t, rfl⟩ := ry
      cases rx
      obtain ⟨_, ya, va, rva, da⟩ := (show ObjOk X.prog X.w H s.heap p1 (.dK _) from I.hok p1 _ h1)
      exact ne_dict_str da _ _ hu0 X.prog X.w _ _ ⟨.bl true, H, I, rfl, q ρ H _ hS .refl rfl⟩
    · cases e
  · cases e
end
end Mi

namespace Mi
open PySem PySem.Spec PyProof.Rows L2
/-! a[::-1] of a list, a tuple or a text; upper -/
def revS (z : Str) : Str := ⟨((Builtin.Str.strSliceIndices none none (-1) z.length).filterMap (z.cps[·]?)).toArray⟩
def tRevX (K : PySem.W.Frag) (te : TE) : TE := fun σ H Q => te σ H fun x H1 => (∃ a xs, x = .ref a ∧ ((SqL K H1 a xs ∧ ∀ p, H1 p = none → Q (.ref p) (upd H1 p (.lst xs.reverse))) ∨ (SqT K H1 a xs ∧ ∀ p, H1 p = none → Q (.ref p) (upd H1 p (.tup xs.reverse))))) ∨
  ∃ z, x = .str z ∧ (revS z).length ≤ sizeLine ∧ Q (.str (revS z)) H1
section
variable {X : Cx}
theorem pe_revX {e : Expr} {te : TE} {k : Nat} {p1 p2 p3 pos : Pos} (he : PE X e te) : PE X (.Subscript e (.Slice none none (some (.UnaryOp .USub (.Constant (.int 1) k p1) p2)) p3) pos) (tRevX X.K te) := by
  refine ⟨fun pins s σ H Q I h => ?_⟩
  refine Subscript_ (thn (he.run pins s σ H _ I h) fun v s1 ⟨x, H1, I1, r1, q1⟩ => ?_)
  have hst : PO X (some (.UnaryOp .USub (.Constant (.int 1) k p1) p2)) (tPart (tUn (rU fun i => .int (-i)) (tC (.int 1)))) := po_some (pe_un un_neg pe_int)
  refine wpAny_Slice (thn (po_none.run pins s1 σ H1 (fun o H2 => o = none ∧ H2 = H1) I1 ⟨rfl, rfl⟩) fun vl s2 ⟨l, H2, I2, pl, el, e2⟩ => ?_)
  subst el e2
  refine thn (po_none.run pins s2 σ H2 (fun o H3 => o = none ∧ H3 = H2) I2 ⟨rfl, rfl⟩) fun vu s3 ⟨u, H3, I3, pu, eu, e3⟩ => ?_
  subst eu e3
  refine thn (hst.run pins s3 σ H3 (fun o H4 => o = some (-1) ∧ H4 = H3) I3 ⟨1, rfl, -1, rfl, rfl, rfl⟩) fun vs s4 ⟨o, H4, I4, ps, eo, e4⟩ => ?_
  subst eo e4
  have I5 : Inv X pins σ H4 { s4 with heap := s4.heap.push { cls := .type "slice", data := .fields #[vl, vu, vs] } } := I4.kept (t' := s4.toks) fun b ob q => Heap.get?_push_of_some _ q
  show wpAny (model X.prog X.w) X.A (subscriptTail e (.Slice none none (some (.UnaryOp .USub (.Constant (.int 1) k p1) p2)) p3) v (.ref s4.heap.objs.size)) (EP X pins σ Q) X.xe { s4 with heap := s4.heap.push { cls := .type "slice", data := .fields #[vl, vu, vs] } }
  rcases q1 with ⟨a, xs, ex, q⟩ | ⟨z, ex, hz, q⟩
  · subst ex
    cases r1
    rcases q with ⟨hx, q⟩ | ⟨hx, q⟩
    · obtain ⟨its, r, ht, hz⟩ := I5.list hx
      have hlen := r.length
      refine tail_any (ops := [.ref a, .ref s4.heap.objs.size]) ht.isList.typeIs (PySem.slot_list_getitem.lookup) ?_ (by with_unfolding_all rfl)
      refine wpAny_getItem_list_slice ht.isList (Heap.IsSliceOf.new _ vl vu vs) pl pu ps (by decide) ?_ (by rw [List.size_toArray]; omega)
      rw [PySem.W.krv_pick]
      refine ⟨.ref _, _, I5.laid (t' := s4.toks) (o := .lst xs.reverse) (fun b ob q => Heap.get?_push_of_some _ q) (Nat.le_refl _) ?_, rfl, q _ (I5.hok.fresh (Nat.le_refl _))⟩
      exact ⟨by rw [List.length_reverse]; exact hz, _, 0, r.reverse, Heap.get?_push_size _ rfl⟩
    · obtain ⟨its, r, ht, hz⟩ := I5.tuple hx
      have hlen := r.length
      refine tail_any (ops := [.ref a, .ref s4.heap.objs.size]) ht.typeIs (PyProof.Rows.slot_tuple_getitem.lookup) ?_ (by with_unfolding_all rfl)
      refine MiR.getItem_tuple_rev ht (Heap.IsSliceOf.new _ vl vu vs) pl pu ps ?_ (by rw [List.size_toArray]; omega)
      refine ⟨.ref _, _, I5.laid (t' := s4.toks) (o := .tup xs.reverse) (fun b ob q => Heap.get?_push_of_some _ q) (Nat.le_refl _) ?_, rfl, q _ (I5.hok.fresh (Nat.le_refl _))⟩
      exact ⟨by rw [List.length_reverse]; exact hz, _, r.reverse, IsTup.new _ _⟩
  · subst ex
    obtain ⟨t, rfl⟩ := r1
    obtain ⟨l, rfl, el⟩ := IsPart.raw pl
    obtain ⟨u, rfl, eu⟩ := IsPart.raw pu
    obtain ⟨w, rfl, ew⟩ := IsPart.raw ps
    refine tail_any (T := "str") (ops := [.str z t, .ref s4.heap.objs.size]) (typeIs_str _ _ _) (F.slot_str_getitem.lookup) ?_ (by with_unfolding_all rfl)
    refine wpAny_getItem_str_slice (l := l) (u := u) (st := w) ⟨_, Heap.get?_push_size _ rfl, rfl, rfl⟩ (by rw [ew]; rfl) ?_
    unfold sliceMade slicePicked
    rw [el, eu, ew]
    exact ⟨hz, .str _, H4, I5.tok _, ⟨_, rfl⟩, q⟩
end
def revX (S : Sto) (d : D) : Option D := match d with
  | .str z => if (revS z).length ≤ 16777216 then some (.str (revS z)) else none
  | d => revA S d
def mRevX (m : TM) : TM := fun env S => (m env S).bind fun d S1 => R.of (revX S1 d) S1
def upperD : GMt := fun S o ds => match o, ds with
  | .str z, [] => if z.length ≤ 5592405 then some (.str (Txt.upper z), S) else none
  | _, _ => none
section
variable {X : Cx} {W : WX} {e : Expr} {m : TM} {p1 p2 p3 pos : Pos} {k : Nat}
theorem revA_ok {K : PySem.W.Frag} {ρ : Rho} {S : Sto} {H : Hp} {σ : L2.St} {d : D} {v : V} {Q : VK} (hS : SOk K ρ S H) (r : Rp K ρ H d v) (h : Post K W (Rp K) ρ H σ (R.of (revA S d) S) Q) :
    ∃ a xs, v = .ref a ∧ ((SqL K H a xs ∧ ∀ p, H p = none → Q (.ref p) (upd H p (.lst xs.reverse))) ∨ (SqT K H a xs ∧ ∀ p, H p = none → Q (.ref p) (upd H p (.tup xs.reverse)))) := by
  unfold revA at h
  split at h
  · obtain ⟨p, vs, e1, h3, h4⟩ := r
    exact ⟨p, vs, e1, .inr ⟨h3.sq, fun q hq => new_tup hS h4.reverse hq h⟩⟩
  · cases hl : lstD S d with
    | none => rw [hl] at h; exact h.elim
    | some l =>
      rw [hl] at h
      obtain ⟨p, vs, e1, h3, h4⟩ := der_lst hS r hl
      exact ⟨p, vs, e1, .inl ⟨h3, fun q hq => new_lst hS h4.reverse hq h⟩⟩
theorem d_revX (he : DE X W e m) : DE X W (.Subscript e (.Slice none none (some (.UnaryOp .USub (.Constant (.int 1) k p1) p2)) p3) pos) (mRevX m) :=
  ⟨PE.imp (pe_revX he.p) fun σ H Q ⟨ρ, S, env, hS, hE, h⟩ => Post.bindK hS hE h fun v H1 ρ1 S1 d hS1 hE1 st1 r1 h1 => by
    unfold revX at h1
    split at h1
    · rename_i z
      split at h1
      · rename_i hz
        cases r1
        exact .inr ⟨z, rfl, by rw [sizeLine16]; exact hz, h1 ρ1 H1 _ hS1 .refl rfl⟩
      · exact h1.elim
    · left
      exact revA_ok hS1 r1 h1⟩
theorem mD_upper : MtR X "str.upper" (rM X.K upperD) := by
  intro pins s σ H x xs v us Q I rx rs h
  obtain ⟨ρ, S, o, ds, z, S', hS, ro, rd, e, q⟩ := h
  unfold upperD at e
  split at e
  · split at e
    · rename_i w hw
      cases e
      cases ro
      cases rd
      exact mt_upper pins s σ H _ _ _ us Q I rx rs ⟨w, rfl, rfl, hw, q ρ H _ hS .refl rfl⟩
    · cases e
  · cases e
end
end Mi

namespace Mi
open PySem PySem.Spec PyProof.Rows L2
/-! [elt for tg in iter for tg1 in row]: two generators, the second one over a tuple -/
open Classical in
noncomputable def lcD2 (g : GM) (tt : BM) (m1 : TM) (g1 : GM) (tt1 : BM) (te : TM) (vs1 : List Nat) (gd : Sto → Prop) (env : En) : List D → Sto → List D → R (List D)
  | [], S, acc => if gd S then .ok acc S else .bad
  | d :: ds, S, acc => if gd S then match g d env S with
    | .ok env1 S1 => match tt env1 S1 with
      | .ok b S2 => if b = true then match m1 env1 S2 with
          | .ok (.tup l1) S3 => (lcD g1 tt1 te (fun _ => True) (wipeE env1 vs1) l1 S3 acc).bind fun acc' S4 => lcD2 g tt m1 g1 tt1 te vs1 gd env ds S4 acc'
          | _ => .bad
        else lcD2 g tt m1 g1 tt1 te vs1 gd env ds S2 acc
      | _ => .bad
    | _ => .bad
    else .bad
noncomputable def mLc2 (i : IM) (g : GM) (tt : BM) (m1 : TM) (g1 : GM) (tt1 : BM) (te : TM) (vs vs1 : List Nat) : TM := fun env S => (i env S).bind fun p S1 => (lcD2 g tt m1 g1 tt1 te vs1 p.2 (wipeE env vs) p.1 S1 []).bind fun l S2 => .ok (.lst l) S2
def tTup (K : PySem.W.Frag) (te : TE) : TI := fun σ H Q => te σ H fun v H1 => ∃ p, v = .ref p ∧ (∃ vs, SqT K H1 p vs) ∧ Q (Itt K p) H1
section
variable {K : PySem.W.Frag} {W : WX}
theorem TLs.pupd {H : Hp} {p D : Addr} {vs us us' : List V} (h : TLs K H p vs) (e : H D = some (.lst us)) : TLs K (upd H D (.lst us')) p vs := by
  have ne : ∀ {o : HO}, H p = some o → (∀ us, o ≠ .lst us) → p ≠ D := fun hp ho z => by
    subst z
    rw [e] at hp
    cases hp
    exact ho _ rfl
  rcases h with h | ⟨o, h, ht⟩ | h
  · exact .inl (by rw [upd_ne (ne h (by intro us z; cases z))]; exact h)
  · exact .inr (.inl ⟨o, by rw [upd_ne (ne h (by intro us z; cases z))]; exact h, ht⟩)
  · exact .inr (.inr h)
theorem of_lc2 {i : IM} {g g1 : GM} {tt tt1 : BM} {m1 te : TM} {vs is vs1 is1 : List Nat} {σ : L2.St} {H : Hp} {Q : VK} {fin : List D → Sto → R D} (his : ∀ i ∈ is, i ∈ vs) (his1 : ∀ i ∈ is1, i ∈ vs1)
    (hfin : ∀ {ρ : Rho} {S : Sto} {H : Hp} {p : Addr} {l : List D} {us : List V} {ρ0 : Rho} {H0 : Hp}, SOk K (ρ.hide p) S H → H p = some (.lst us) → Rps K (ρ.hide p) H l us → ¬ ρ.pv p → H0 p = none → Stp ρ0 ρ H0 H → Post K W (Rp K) ρ0 H0 σ (fin l S) Q → Q (.ref p) H)
    (h : tE K W (fun env S => (i env S).bind fun p S1 => (lcD2 g tt m1 g1 tt1 te vs1 p.2 (wipeE env vs) p.1 S1 []).bind fin) σ H Q) : tLc2 (tI K W i) (gD K is g) (tT K W0 tt) (tTup K (tE K W0 m1)) (gD K is1 g1) (tT K W0 tt1) (tE K W0 te) vs vs1 σ H Q := by
  obtain ⟨ρ, S, env, hS, hE, h⟩ := h
  refine ⟨ρ, S, env, hS, hE, ?_⟩
  cases hi' : i env S with
  | exc C fs S1 =>
    simp only [hi', R.bind_exc] at h
    exact h
  | bad => simp only [hi', R.bind_bad] at h; exact h.elim
  | ok p S1 =>
    obtain ⟨l, gd⟩ := p
    simp only [hi', R.bind_ok] at h
    intro ρ1 H1 J hS1 st1 it D hD
    have hv1 : ¬ ρ1.pv D := (hS1.noN hD).2
    refine ⟨fun k m H' => m = l.length - k ∧ k ≤ l.length ∧ ∃ ρ' S' acc us, SOk K (ρ'.hide D) S' H' ∧ ¬ ρ'.pv D ∧ Stp ρ1 ρ' H1 H' ∧ H' D = some (.lst us) ∧ Rps K (ρ'.hide D) H' acc us ∧ EOk K (ρ'.hide D) H' (wipeE env vs) (L2.wipe σ vs) ∧
        Post K W (Rp K) ρ1 H1 σ ((lcD2 g tt m1 g1 tt1 te vs1 gd (wipeE env vs) (l.drop k) S' acc).bind fin) Q,
      ⟨l.length, by simp, Nat.zero_le _, ρ1, S1, [], [], hS1.hideN hD, hv1, .alloc hD, upd_same, rfl, ((hE.step hS st1).hideN hD).wipe vs, by simpa using h.step st1⟩, ?_⟩
    rintro k m H' ⟨rfl, hk, ρ', S', acc, us, hS', hv', st', eD, racc, hE', h'⟩
    by_cases hlt : k < l.length
    · right
      rw [List.drop_eq_getElem_cons hlt] at h'
      unfold lcD2 at h'
      split at h'
      case isFalse => exact h'.elim
      rename_i hgd
      refine ⟨it.goes k ρ' S' H' hlt hS'.unhide st' hgd, fun H2 => ∃ ρ2 S2 acc2 us2, SOk K (ρ2.hide D) S2 H2 ∧ ¬ ρ2.pv D ∧ Stp ρ1 ρ2 H1 H2 ∧ H2 D = some (.lst us2) ∧ Rps K (ρ2.hide D) H2 acc2 us2 ∧ EOk K (ρ2.hide D) H2 (wipeE env vs) (L2.wipe σ vs) ∧
        Post K W (Rp K) ρ1 H1 σ ((lcD2 g tt m1 g1 tt1 te vs1 gd (wipeE env vs) (l.drop (k + 1)) S2 acc2).bind fin) Q, fun H2 q => ⟨l.length - (k + 1), by omega, rfl, hlt, q⟩, fun x H2 y => ?_⟩
      have gdH := it.yields k (ρ'.hide D) S' H' x H2 hlt hS' (st'.hide hD) hgd y
      obtain ⟨d, hd, hS2, st2, r2⟩ := gdH
      have hd' : d = l[k] := by simp [hlt] at hd; exact hd.symm
      subst hd'
      cases hg' : g l[k] (wipeE env vs) S' with
      | exc C fs S3 => rw [hg'] at h'; exact h'.elim
      | bad => rw [hg'] at h'; exact h'.elim
      | ok env3 S3 =>
        rw [hg'] at h'
        refine ⟨ρ'.hide D, S', wipeE env vs, l[k], hS2, hE'.step hS' st2, r2, env3, S3, hg', fun ρ4 H4 σ4 hS4 st4 hE4 chg => ⟨wipe_chg chg his, ?_⟩⟩
        refine ⟨ρ4, S3, env3, hS4, hE4, ?_⟩
        simp only at h'
        cases ht' : tt env3 S3 with
        | exc C fs S4 => rw [ht'] at h'; exact h'.elim
        | bad => rw [ht'] at h'; exact h'.elim
        | ok b S5 =>
          rw [ht'] at h'
          intro ρ6 H6 b' hS6 st6 eb
          cases eb
          simp only at h'
          have stB : Stp (ρ'.hide D) ρ6 H' H6 := (st2.trans st4).trans st6
          have hE6 : EOk K ρ6 H6 (wipeE env vs) (L2.wipe σ vs) := hE'.step hS' stB
          have racc6 := Rps.step hS' stB acc us racc
          have eD6 : H6 D = some (.lst us) := stB.keep D _ eD (hS'.prv D (.inr rfl)).2
          cases b with
          | false =>
            simp only [Bool.false_eq_true, if_false] at h' ⊢
            obtain ⟨ρ7, rfl, hv7, st7⟩ := stB.unhide hv'
            exact ⟨ρ7, S5, acc, us, hS6, hv7, st'.trans st7, eD6, racc6, hE6, h'⟩
          | true =>
            simp only [if_true] at h' ⊢
            refine ⟨ρ6, S5, env3, hS6, hE4.step hS4 st6, ?_⟩
            cases hm1 : m1 env3 S5 with
            | exc C fs S8 => rw [hm1] at h'; exact h'.elim
            | bad => rw [hm1] at h'; exact h'.elim
            | ok z S8 =>
              rw [hm1] at h'
              split at h'
              case h_2 => exact h'.elim
              rename_i l1 S8' hz
              cases hz
              intro ρ9 H9 yv hS9 st9 ry
              obtain ⟨p, ws, rfl, htl, rl1⟩ := ry
              refine ⟨p, rfl, ⟨ws, htl.sq⟩, ?_⟩
              have stC : Stp (ρ'.hide D) ρ9 H' H9 := stB.trans st9
              have eD9 : H9 D = some (.lst us) := stC.keep D _ eD (hS'.prv D (.inr rfl)).2
              have racc9 := Rps.step hS' stC acc us racc
              obtain ⟨ρ7, rfl, hv7, st7⟩ := stC.unhide hv'
              have hE3 : EOk K (ρ7.hide D) H9 (wipeE env3 vs1) (L2.wipe σ4 vs1) := ((hE4.step hS4 st6).step hS6 st9).wipe vs1
              refine ⟨fun j m H10 => m = l1.length - j ∧ j ≤ l1.length ∧ ∃ ρ' S' acc us, SOk K (ρ'.hide D) S' H10 ∧ ¬ ρ'.pv D ∧ Stp ρ1 ρ' H1 H10 ∧ H10 D = some (.lst us) ∧ Rps K (ρ'.hide D) H10 acc us ∧ EOk K (ρ'.hide D) H10 (wipeE env vs) (L2.wipe σ vs) ∧
                  EOk K (ρ'.hide D) H10 (wipeE env3 vs1) (L2.wipe σ4 vs1) ∧ TLs K H10 p ws ∧ Rps K (ρ'.hide D) H10 l1 ws ∧
                  Post K W (Rp K) ρ1 H1 σ (((lcD g1 tt1 te (fun _ => True) (wipeE env3 vs1) (l1.drop j) S' acc).bind fun acc' S4 => lcD2 g tt m1 g1 tt1 te vs1 gd (wipeE env vs) (l.drop (k + 1)) S4 acc').bind fin) Q,
                ⟨l1.length, by simp, Nat.zero_le _, ρ7, S8, acc, us, hS9, hv7, st'.trans st7, eD9, racc9, hE'.step hS' stC, hE3, htl, rl1, by simpa using h'⟩, ?_⟩
              rintro j m H10 ⟨rfl, hj, ρa, Sa, acca, usa, hSa, hva, sta, eDa, racca, hEa, hE3a, htla, rl1a, ha⟩
              by_cases hltj : j < l1.length
              · right
                rw [List.drop_eq_getElem_cons hltj] at ha
                unfold lcD at ha
                rw [if_pos trivial] at ha
                have hwl : j < ws.length := by rw [← rl1a.length]; exact hltj
                refine ⟨⟨ws, ws[j], htla.sq, by simp [hwl]⟩, fun H2 => ∃ ρ' S' acc us, SOk K (ρ'.hide D) S' H2 ∧ ¬ ρ'.pv D ∧ Stp ρ1 ρ' H1 H2 ∧ H2 D = some (.lst us) ∧ Rps K (ρ'.hide D) H2 acc us ∧ EOk K (ρ'.hide D) H2 (wipeE env vs) (L2.wipe σ vs) ∧
                  EOk K (ρ'.hide D) H2 (wipeE env3 vs1) (L2.wipe σ4 vs1) ∧ TLs K H2 p ws ∧ Rps K (ρ'.hide D) H2 l1 ws ∧
                  Post K W (Rp K) ρ1 H1 σ (((lcD g1 tt1 te (fun _ => True) (wipeE env3 vs1) (l1.drop (j + 1)) S' acc).bind fun acc' S4 => lcD2 g tt m1 g1 tt1 te vs1 gd (wipeE env vs) (l.drop (k + 1)) S4 acc').bind fin) Q, fun H2 q => ⟨l1.length - (j + 1), by omega, rfl, hltj, q⟩, fun x H2 y => ?_⟩
                obtain ⟨e1, y⟩ := y
                subst e1
                obtain ⟨d', e2, r2'⟩ := YAt_get rl1a (y ws htla.sq)
                have hd2 : d' = l1[j] := by simp [hltj] at e2; exact e2.symm
                subst hd2
                cases hg1 : g1 l1[j] (wipeE env3 vs1) Sa with
                | exc C fs S3 => rw [hg1] at ha; exact ha.elim
                | bad => rw [hg1] at ha; exact ha.elim
                | ok env5 Sb =>
                  rw [hg1] at ha
                  refine ⟨ρa.hide D, Sa, wipeE env3 vs1, l1[j], hSa, hE3a, r2', env5, Sb, hg1, fun ρb Hb σb hSb stb hEb chgb => ⟨wipe_chg chgb his1, ?_⟩⟩
                  refine ⟨ρb, Sb, env5, hSb, hEb, ?_⟩
                  simp only at ha
                  cases ht1 : tt1 env5 Sb with
                  | exc C fs S4 => rw [ht1] at ha; exact ha.elim
                  | bad => rw [ht1] at ha; exact ha.elim
                  | ok b Sc =>
                    rw [ht1] at ha
                    intro ρc Hc b' hSc stc eb
                    cases eb
                    simp only at ha
                    have stD : Stp (ρa.hide D) ρc _ Hc := stb.trans stc
                    cases b with
                    | false =>
                      simp only [Bool.false_eq_true, if_false] at ha ⊢
                      have eDc : Hc D = some (.lst usa) := stD.keep D _ eDa (hSa.prv D (.inr rfl)).2
                      have raccc := Rps.step hSa stD acca usa racca
                      have hEc := hEa.step hSa stD
                      have hE3c := hE3a.step hSa stD
                      have htlc := stD.tls hSa htla
                      have rl1c := Rps.step hSa stD l1 ws rl1a
                      obtain ⟨ρ8, rfl, hv8, st8⟩ := stD.unhide hva
                      exact ⟨ρ8, Sc, acca, usa, hSc, hv8, sta.trans st8, eDc, raccc, hEc, hE3c, htlc, rl1c, ha⟩
                    | true =>
                      simp only [if_true] at ha ⊢
                      refine ⟨ρc, Sc, env5, hSc, hEb.step hSb stc, ?_⟩
                      cases he' : te env5 Sc with
                      | exc C fs S8 => rw [he'] at ha; exact ha.elim
                      | bad => rw [he'] at ha; exact ha.elim
                      | ok z Sd =>
                        rw [he'] at ha
                        simp only at ha
                        split at ha
                        case isFalse => exact ha.elim
                        rename_i hlen
                        intro ρd Hd yv hSd std ry
                        have stE : Stp (ρa.hide D) ρd _ Hd := stD.trans std
                        have eDd : Hd D = some (.lst usa) := stE.keep D _ eDa (hSa.prv D (.inr rfl)).2
                        have raccd := Rps.step hSa stE acca usa racca
                        have htld := stE.tls hSa htla
                        have rl1d := Rps.step hSa stE l1 ws rl1a
                        have hEd := hEa.step hSa stE
                        have hE3d := hE3a.step hSa stE
                        obtain ⟨ρ8, rfl, hv8, st8⟩ := stE.unhide hva
                        have mkD : ∀ u, Hd D = some u → Mk u := fun u hu => by rw [eDd] at hu; cases hu; trivial
                        have pvD : (ρ8.hide D).pv D := .inr rfl
                        refine ⟨usa, eDd, by rw [sizeLine16, ← raccd.length]; exact hlen, ρ8, Sd, acca ++ [z], usa ++ [yv], hSd.pupd pvD, hv8, (sta.trans st8).putP hD, upd_same, ?_, hEd.pupd mkD pvD, hE3d.pupd mkD pvD, htld.pupd eDd, Rps.pupd mkD pvD _ _ rl1d, ha⟩
                        exact Rps.pupd mkD pvD _ _ (raccd.append (es := [z]) (ws := [yv]) ⟨yv, [], rfl, ry, rfl⟩)
              · left
                have ek : j = l1.length := by omega
                subst ek
                rw [List.drop_length] at ha
                unfold lcD at ha
                rw [if_pos trivial] at ha
                refine ⟨⟨ws, htla.sq, by rw [rl1a.length]; exact Nat.le_refl _⟩, ρa, Sa, acca, usa, hSa, hva, sta, eDa, racca, hEa, ?_⟩
                simpa using ha
    · left
      have ek : k = l.length := by omega
      subst ek
      rw [List.drop_length] at h'
      unfold lcD2 at h'
      split at h'
      case isFalse => exact h'.elim
      rename_i hgd
      exact ⟨it.stops ρ' S' H' hS'.unhide st' hgd, hfin hS' eD racc hv' hD st' h'⟩
end
section
variable {X : Cx} {W : WX} {elt tg iter tg1 iter1 : Expr} {ifs ifs1 : List Expr} {scope : Scope} {own : List (Str × Nat)} {pos : Pos} {i : IM} {g g1 : GM} {tt tt1 : BM} {m1 te : TM} {is is1 vs1 : List Nat}
theorem d_lc2 (hc : X.calm = true) (hN : X.N.Nodup) (hi : DI X W tg iter i) (ok : BlkOk X.N X.env.scope scope own) (his : ∀ i ∈ is, i ∈ own.map (·.2)) (his1 : ∀ i ∈ is1, i ∈ vs1) (hv : ∀ i ∈ vs1, i ∈ own.map (·.2))
    (hg : ∀ (s : Shared) (H : Hp) (C : Addr) (cl : List (Str × Addr)) (fp : List Addr), DG (X.blk s H scope (compEnvC scope cl C X.env) fp) is tg g) (ht : ∀ (s : Shared) (H : Hp) (C : Addr) (cl : List (Str × Addr)) (fp : List Addr), DTs (X.blk s H scope (compEnvC scope cl C X.env) fp) ifs tt)
    (hi1 : ∀ (s : Shared) (H : Hp) (C : Addr) (cl : List (Str × Addr)) (fp : List Addr), DE (X.blk s H scope (compEnvC scope cl C X.env) fp) W0 iter1 m1)
    (hg1 : ∀ (s : Shared) (H : Hp) (C : Addr) (cl : List (Str × Addr)) (fp : List Addr), DG (X.blk s H scope (compEnvC scope cl C X.env) fp) is1 tg1 g1) (ht1 : ∀ (s : Shared) (H : Hp) (C : Addr) (cl : List (Str × Addr)) (fp : List Addr), DTs (X.blk s H scope (compEnvC scope cl C X.env) fp) ifs1 tt1)
    (he : ∀ (s : Shared) (H : Hp) (C : Addr) (cl : List (Str × Addr)) (fp : List Addr), DE (X.blk s H scope (compEnvC scope cl C X.env) fp) W0 elt te) (hs : ∀ x, foldedSetIterable iter X.env x = pure x := by intro _; rfl) (hs1 : ∀ env x, foldedSetIterable iter1 env x = pure x := by intro _ _; rfl) :
    DE X W (.ListComp elt [⟨tg, iter, ifs, 0⟩, ⟨tg1, iter1, ifs1, 0⟩] scope pos) (mLc2 i g tt m1 g1 tt1 te (own.map (·.2)) vs1) :=
  ⟨PE.imp (pe_lc2 (wi1 := tTup X.K (tE X.K W0 m1)) hc hN hi.p ok hv (fun s H C cl fp => (hg s H C cl fp).p) (fun s H C cl fp => (ht s H C cl fp).p) (fun s H C cl fp => PI.imp (pi_tup (hi1 s H C cl fp).p) fun σ H Q h => h) (fun s H C cl fp => (hg1 s H C cl fp).p) (fun s H C cl fp => (ht1 s H C cl fp).p) (fun s H C cl fp => (he s H C cl fp).p) hs hs1) fun σ H Q h =>
    of_lc2 his his1 (fun hS e r hv _ st hf => by obtain ⟨h1, h2⟩ := hidden_lst hS e r hv; exact hf _ _ _ h1 st h2) h⟩
end
end Mi

namespace Mi
open PySem PySem.Spec PyProof.Rows L2
/-! ### sizes, by instances -/
class Bd (i : Int) (n : outParam Nat) : Prop where
  h : Sm n i
instance bd_mul (i j : Int) (n m : Nat) [a : Bd i n] [b : Bd j m] : Bd (i * j) (n + m) := ⟨a.h.mul b.h⟩
instance bd_add (i j : Int) (n m : Nat) [a : Bd i n] [b : Bd j m] : Bd (i + j) (n + m + 1) := ⟨a.h.add b.h⟩
instance bd_sub (i j : Int) (n m : Nat) [a : Bd i n] [b : Bd j m] : Bd (i - j) (n + m + 1) := ⟨a.h.sub b.h⟩
instance bd_neg (i : Int) (n : Nat) [a : Bd i n] : Bd (-i) n := ⟨a.h.neg⟩
theorem Bd.up {i : Int} {n m : Nat} (a : Bd i n) (h : n ≤ m) : Bd i m := ⟨a.h.le h⟩
instance bd_ite (c : Prop) [Decidable c] (i j : Int) (n m : Nat) [a : Bd i n] [b : Bd j m] : Bd (if c then i else j) (n + m) := ⟨by
  split
  · exact a.h.le (by omega)
  · exact b.h.le (by omega)⟩
theorem bd_lt {i : Int} {n : Nat} (a : -(2 ^ n : Int) < i) (b : i < (2 ^ n : Int)) : Bd i n := ⟨by
  unfold Sm
  have : ((2 ^ n : Nat) : Int) = (2 : Int) ^ n := by simp
  omega⟩
theorem Bd.lo {i : Int} {n : Nat} (a : Bd i n) : -(2 ^ n : Int) < i := by
  have h := a.h
  unfold Sm at h
  have : ((2 ^ n : Nat) : Int) = (2 : Int) ^ n := by simp
  omega
theorem Bd.hi {i : Int} {n : Nat} (a : Bd i n) : i < (2 ^ n : Int) := by
  have h := a.h
  unfold Sm at h
  have : ((2 ^ n : Nat) : Int) = (2 : Int) ^ n := by simp
  omega
instance : Bd 0 64 := ⟨by unfold Sm; decide⟩
instance : Bd 1 64 := ⟨by unfold Sm; decide⟩
instance : Bd 2 64 := ⟨by unfold Sm; decide⟩
instance : Bd 3 64 := ⟨by unfold Sm; decide⟩
instance : Bd 10 64 := ⟨by unfold Sm; decide⟩
/-! ### operators at whole numbers -/
@[simp] theorem mulD_int {S : Sto} {i j : Int} {n m : Nat} [a : Bd i n] [b : Bd j m] (h1 : n ≤ 60000) (h2 : m ≤ 60000) : mulD S (.int i) (.int j) = some (.int (i * j)) := by
  unfold mulD
  exact if_pos ⟨a.h.le h1, b.h.le h2⟩
@[simp] theorem addD_int {S : Sto} {i j : Int} : addD S (.int i) (.int j) = some (.int (i + j)) := rfl
@[simp] theorem subD_int {S : Sto} {i j : Int} : subD S (.int i) (.int j) = some (.int (i - j)) := rfl
@[simp] theorem subD_bl {S : Sto} {i j : Bool} : subD S (.bl i) (.bl j) = some (.int (b2i i - b2i j)) := rfl
@[simp] theorem negD_int {S : Sto} {i : Int} : negD S (.int i) = some (.int (-i)) := rfl
theorem fdivD_int {S : Sto} {i j : Int} {m : Nat} [b : Bd j m] (h : m ≤ 8000) (hj : j ≠ 0) : fdivD S (.int i) (.int j) = some (.int (i.fdiv j)) := by
  unfold fdivD
  exact if_pos ⟨hj, b.h.le h⟩
theorem modD_int {S : Sto} {i j : Int} (hj : j ≠ 0) : modD S (.int i) (.int j) = some (.int (i.fmod j)) := by
  unfold modD
  exact if_pos hj
@[simp] theorem cmpD_int {f : Int → Int → Bool} {S : Sto} {i j : Int} : cmpD f S (.int i) (.int j) = some (.bl (f i j)) := rfl
@[simp] theorem powD_2 {S : Sto} {i : Int} {n : Nat} [a : Bd i n] (h : n ≤ 60000) : powD S (.int i) (.int 2) = some (.int (i * i)) := by
  unfold powD
  rw [show (i * i : Int) = i ^ (2 : Int).toNat by show i * i = i ^ 2; rw [Int.pow_succ, Int.pow_succ, Int.pow_zero, Int.one_mul]]
  exact if_pos ⟨by decide, by decide, a.h.le h⟩
@[simp] theorem powD_lit {S : Sto} {i j : Int} {n : Nat} [a : Bd i n] (h : n ≤ 60000) (h0 : 0 ≤ j) (h1 : j ≤ 100) : powD S (.int i) (.int j) = some (.int (i ^ j.toNat)) := if_pos ⟨h0, h1, a.h.le h⟩
theorem powD_c {S : Sto} {i j : Int} (h : 0 ≤ j ∧ j ≤ 100 ∧ Sm 60000 i) : powD S (.int i) (.int j) = some (.int (i ^ j.toNat)) := if_pos h
theorem shlD_c {S : Sto} {i j : Int} {n : Nat} [a : Bd i n] (h0 : 0 ≤ j) (h1 : j ≤ 10000) (h : n ≤ 60000) : shlD S (.int i) (.int j) = some (.int (i * 2 ^ j.toNat)) := if_pos ⟨h0, h1, a.h.le h⟩
@[simp] theorem mulD_tup {S : Sto} {l : List D} {j : Int} (h0 : l ≠ []) (h1 : 2 ≤ j) (h2 : j ≤ 1000) (h3 : l.length ≤ 1000) : mulD S (.tup l) (.int j) = some (.tup (List.replicate j.toNat l).flatten) := if_pos ⟨h0, h1, h2, h3⟩
@[simp] theorem addD_tup {S : Sto} {l m : List D} (h : l.length + m.length ≤ 16777216) : addD S (.tup l) (.tup m) = some (.tup (l ++ m)) := if_pos h
@[simp] theorem addD_lst {S : Sto} {l m : List D} (h : l.length + m.length ≤ 16777216) : addD S (.lst l) (.lst m) = some (.lst (l ++ m)) := if_pos h
@[simp] theorem isD_non {S : Sto} {a : D} : isD S a .non = some (.bl a.isNon) := rfl
@[simp] theorem isD_bl {S : Sto} {a : D} {c : Bool} : isD S a (.bl c) = some (.bl (a.isBl c)) := rfl
@[simp] theorem isnD_non {S : Sto} {a : D} : isnD S a .non = some (.bl !a.isNon) := rfl
def one1 : List D → Option Int
  | [.int j] => some j
  | _ => none
@[simp] theorem one1_int {j : Int} : one1 [.int j] = some j := rfl
def blD : D → Option Bool
  | .bl b => some b
  | _ => none
@[simp] theorem blD_bl {b : Bool} : blD (.bl b) = some b := rfl
/-! ### what a reading gives: one of these -/
def Ens {α : Type} (r : R α) (P : α → Sto → Prop) : Prop := match r with
  | .ok a S => P a S
  | _ => False
section
variable {α β : Type} {P : α → Sto → Prop} {Q : β → Sto → Prop} {Pd : D → Sto → Prop} {Pb : Bool → Sto → Prop} {Pl : List D → Sto → Prop} {env : En} {S : Sto}
@[simp] theorem Ens_ok {a : α} : Ens (R.ok a S) P ↔ P a S := Iff.rfl
@[simp] theorem Ens_bad : Ens (R.bad : R α) P ↔ False := Iff.rfl
@[simp] theorem Ens_bind {r : R α} {f : α → Sto → R β} : Ens (r.bind f) Q ↔ Ens r fun a S => Ens (f a S) Q := by cases r <;> exact Iff.rfl
@[simp] theorem Ens_ite {c : Prop} [Decidable c] {x y : R α} : Ens (if c then x else y) P ↔ (c → Ens x P) ∧ (¬ c → Ens y P) := by
  by_cases h : c
  · simp [h]
  · simp [h]
theorem Ens.mono {r : R α} {P' : α → Sto → Prop} (h : Ens r P) (k : ∀ a S, P a S → P' a S) : Ens r P' := by
  cases r with
  | ok a S => exact k a S h
  | exc C fs S => exact h
  | bad => exact h
theorem Ens.eq {r : R α} (h : Ens r P) : ∃ a S, r = .ok a S ∧ P a S := by
  cases r with
  | ok a S => exact ⟨a, S, rfl, h⟩
  | exc C fs S => exact h.elim
  | bad => exact h.elim
theorem Ens_is {r : R α} {a : α} (e : r = .ok a S) : Ens r P ↔ P a S := by rw [e]; exact Iff.rfl
theorem ens_eq {r : R α} {a : α} (h : Ens r fun b T => b = a ∧ T = S) : r = .ok a S := by
  cases r with
  | ok b T => obtain ⟨rfl, rfl⟩ := h; rfl
  | exc C fs S => exact h.elim
  | bad => exact h.elim
@[simp] theorem mVar_zero {d : D} {e : En} : mVar 0 (some d :: e) S = .ok d S := rfl
@[simp] theorem mVar_succ {n : Nat} {d : Option D} {e : En} : mVar (n + 1) (d :: e) S = mVar n e S := rfl
@[simp] theorem mC_ok {d : D} : mC d env S = .ok d S := rfl
@[simp] theorem Ens_mOp {g : G2} {ma mb : TM} : Ens (mOp g ma mb env S) Pd ↔ Ens (ma env S) fun a S1 => Ens (mb env S1) fun b S2 => Ens (R.of (g S2 a b) S2) Pd := by unfold mOp; simp
@[simp] theorem Ens_mUn {g : G1} {ma : TM} : Ens (mUn g ma env S) Pd ↔ Ens (ma env S) fun a S1 => Ens (R.of (g S1 a) S1) Pd := by unfold mUn; simp
@[simp] theorem Ens_mTup {n : AM} : Ens (mTup n env S) Pd ↔ Ens (n env S) fun l S1 => l.length ≤ 16777216 ∧ Pd (.tup l) S1 := by
  unfold mTup
  simp only [Ens_bind, Ens_ite, Ens_ok, Ens_bad]
  constructor
  · intro h
    refine h.mono fun a S h => ?_
    by_cases hl : a.length ≤ 16777216
    · exact ⟨hl, h.1 hl⟩
    · exact (h.2 hl).elim
  · exact fun h => h.mono fun a S h => ⟨fun _ => h.2, fun z => z h.1⟩
@[simp] theorem Ens_mLst {n : AM} : Ens (mLst n env S) Pd ↔ Ens (n env S) fun l S1 => l.length ≤ 16777216 ∧ Pd (.lst l) S1 := by
  unfold mLst
  simp only [Ens_bind, Ens_ite, Ens_ok, Ens_bad]
  constructor
  · intro h
    refine h.mono fun a S h => ?_
    by_cases hl : a.length ≤ 16777216
    · exact ⟨hl, h.1 hl⟩
    · exact (h.2 hl).elim
  · exact fun h => h.mono fun a S h => ⟨fun _ => h.2, fun z => z h.1⟩
@[simp] theorem Ens_new {o : O} : Ens (R.new o S) Pd ↔ Pd (.loc S.length) (S ++ [o]) := Iff.rfl
@[simp] theorem Ens_mNew {n : AM} : Ens (mNew n env S) Pd ↔ Ens (n env S) fun l S1 => l.length ≤ 16777216 ∧ Pd (.loc S1.length) (S1 ++ [.lst l]) := by
  unfold mNew
  simp only [Ens_bind, Ens_ite, Ens_new, Ens_bad]
  constructor
  · intro h
    refine h.mono fun a S h => ?_
    by_cases hl : a.length ≤ 16777216
    · exact ⟨hl, h.1 hl⟩
    · exact (h.2 hl).elim
  · exact fun h => h.mono fun a S h => ⟨fun _ => h.2, fun z => z h.1⟩
@[simp] theorem Ens_aNil : Ens (aNil env S) Pl ↔ Pl [] S := Iff.rfl
@[simp] theorem Ens_aCons {m : TM} {n : AM} : Ens (aCons m n env S) Pl ↔ Ens (m env S) fun a S1 => Ens (n env S1) fun l S2 => Pl (a :: l) S2 := by unfold aCons; simp
@[simp] theorem Ens_mCall {np : Nat} {m : FM} {n : AM} : Ens (mCall np m n env S) Pd ↔ Ens (n env S) fun ds S1 => if ds.length = np then Ens (m ds S1) Pd else False := by
  unfold mCall
  simp only [Ens_bind]
  constructor <;> exact fun h => h.mono fun a S h => by
    by_cases q : a.length = np
    · rw [if_pos q] at *; exact h
    · rw [if_neg q] at *; exact h
@[simp] theorem Ens_mCallK {np n1 n2 : Nat} {idx : List Nat} {m : FM} {n nk : AM} : Ens (mCallK np n1 n2 idx m n nk env S) Pd ↔ Ens (n env S) fun ds S1 => Ens (nk env S1) fun es S2 => if ds.length = n1 ∧ es.length = n2 then Ens (m (gPerm idx ds es) S2) Pd else False := by
  unfold mCallK
  simp only [Ens_bind]
  constructor <;> exact fun h => h.mono fun a S h => h.mono fun b S h => by
    by_cases q : a.length = n1 ∧ b.length = n2
    · rw [if_pos q] at *; exact h
    · rw [if_neg q] at *; exact h
@[simp] theorem gPerm_nil {α : Type} {us ws : List α} : gPerm [] us ws = [] := rfl
@[simp] theorem gPerm_cons {α : Type} {i : Nat} {idx : List Nat} {us ws : List α} : gPerm (i :: idx) us ws = ((us ++ ws)[i]?).toList ++ gPerm idx us ws := by
  unfold gPerm
  rw [List.filterMap_cons]
  cases (us ++ ws)[i]? <;> rfl
@[simp] theorem Ens_mB {g : GL} {n : AM} : Ens (mB g n env S) Pd ↔ Ens (n env S) fun ds S1 => Ens (R.of (g S1 ds) S1) Pd := by unfold mB; simp
@[simp] theorem Ens_oNone {Po : Option Int → Sto → Prop} : Ens (oNone env S) Po ↔ Po none S := Iff.rfl
@[simp] theorem Ens_oSome {m : TM} {Po : Option Int → Sto → Prop} : Ens (oSome m env S) Po ↔ Ens (m env S) fun a S1 => Ens (R.of (intD a) S1) fun i S2 => Po (some i) S2 := by
  unfold oSome
  simp only [Ens_bind]
  constructor <;> exact fun h => h.mono fun a S h => by cases a <;> exact h
@[simp] theorem intD_int {i : Int} : intD (.int i) = some i := rfl
@[simp] theorem Ens_mSl {m : TM} {lo hi : En → Sto → R (Option Int)} : Ens (mSl m lo hi env S) Pd ↔ Ens (m env S) fun a S1 => Ens (lo env S1) fun l S2 => Ens (hi env S2) fun u S3 => Ens (R.of (slD S3 a l u) S3) Pd := by unfold mSl; simp
@[simp] theorem Ens_mRev {m : TM} : Ens (mRev m env S) Pd ↔ Ens (m env S) fun d S1 => Ens (R.of (revD S1 d) S1) fun l S2 => Pd (.lst l) S2 := by
  unfold mRev
  simp only [Ens_bind]
  constructor <;> exact fun h => h.mono fun a S h => by
    revert h
    cases revD S a <;> exact id
@[simp] theorem Ens_mRevN {m : TM} : Ens (mRevN m env S) Pd ↔ Ens (m env S) fun d S1 => Ens (R.of (revD S1 d) S1) fun l S2 => Pd (.loc S2.length) (S2 ++ [.lst l]) := by
  unfold mRevN
  simp only [Ens_bind]
  constructor <;> exact fun h => h.mono fun a S h => by
    revert h
    cases revD S a <;> exact id
@[simp] theorem Ens_mChain {g g' : G2} {ma mb mc : TM} : Ens (mChain g g' ma mb mc env S) Pd ↔ Ens (ma env S) fun a S1 => Ens (mb env S1) fun b S2 => Ens (R.of ((g S2 a b).bind blD) S2) fun t S3 => (t = true → Ens (mc env S3) fun c S4 => Ens (R.of (g' S4 b c) S4) Pd) ∧ (t = false → Pd (.bl false) S3) := by
  unfold mChain
  simp only [Ens_bind]
  constructor <;> exact fun h => h.mono fun a S h => h.mono fun b S h => by
    revert h
    cases g S a b with
    | none => exact id
    | some d =>
      cases d with
      | bl b =>
        intro h
        cases b <;> simpa [blD] using h
      | _ => exact id
/-! tests -/
@[simp] theorem Ens_bVal {m : TM} : Ens (bVal m env S) Pb ↔ Ens (m env S) fun a S1 => Ens (R.of (blD a) S1) Pb := by
  unfold bVal
  simp only [Ens_bind]
  constructor <;> exact fun h => h.mono fun a S h => by cases a <;> exact h
@[simp] theorem Ens_bAnd {m n : BM} : Ens (bAnd m n env S) Pb ↔ Ens (m env S) fun a S1 => (a = true → Ens (n env S1) Pb) ∧ (a = false → Pb false S1) := by
  unfold bAnd
  simp
@[simp] theorem Ens_bOr {m n : BM} : Ens (bOr m n env S) Pb ↔ Ens (m env S) fun a S1 => (a = true → Pb true S1) ∧ (a = false → Ens (n env S1) Pb) := by
  unfold bOr
  simp
@[simp] theorem Ens_bNot {m : BM} : Ens (bNot m env S) Pb ↔ Ens (m env S) fun a S1 => Pb (!a) S1 := by
  unfold bNot
  simp
@[simp] theorem Ens_bYes : Ens (bYes env S) Pb ↔ Pb true S := Iff.rfl
@[simp] theorem Ens_mIf {t : BM} {m n : TM} : Ens (mIf t m n env S) Pd ↔ Ens (t env S) fun a S1 => (a = true → Ens (m env S1) Pd) ∧ (a = false → Ens (n env S1) Pd) := by
  unfold mIf
  simp
@[simp] theorem Ens_mNot {m : TM} : Ens (mNot m env S) Pd ↔ Ens (m env S) fun a S1 => Ens (R.of (blD a) S1) fun b S2 => Pd (.bl !b) S2 := by
  unfold mNot
  simp only [Ens_bind]
  constructor <;> exact fun h => h.mono fun a S h => by cases a <;> exact h
@[simp] theorem Ens_mAnd {m n : TM} : Ens (mAnd m n env S) Pd ↔ Ens (m env S) fun a S1 => Ens (R.of (blD a) S1) fun b S2 => (b = true → Ens (n env S2) Pd) ∧ (b = false → Pd (.bl false) S2) := by
  unfold mAnd
  simp only [Ens_bind]
  constructor <;> exact fun h => h.mono fun a S h => by
    cases a with
    | bl b => cases b <;> simpa [blD] using h
    | _ => exact h
@[simp] theorem Ens_mOr {m n : TM} : Ens (mOr m n env S) Pd ↔ Ens (m env S) fun a S1 => Ens (R.of (blD a) S1) fun b S2 => (b = true → Pd (.bl true) S2) ∧ (b = false → Ens (n env S2) Pd) := by
  unfold mOr
  simp only [Ens_bind]
  constructor <;> exact fun h => h.mono fun a S h => by
    cases a with
    | bl b => cases b <;> simpa [blD] using h
    | _ => exact h
end
/-! ### statements -/
def EnsS (r : RS) (P : RS → Prop) : Prop := match r with
  | .exc _ _ _ _ => False
  | .bad => False
  | r => P r
section
variable {α : Type} {P : RS → Prop} {env : En} {S : Sto}
@[simp] theorem EnsS_nx : EnsS (.nx env S) P ↔ P (.nx env S) := Iff.rfl
@[simp] theorem EnsS_rt {d : D} : EnsS (.rt d S) P ↔ P (.rt d S) := Iff.rfl
@[simp] theorem EnsS_bk : EnsS (.bk env S) P ↔ P (.bk env S) := Iff.rfl
@[simp] theorem EnsS_ct : EnsS (.ct env S) P ↔ P (.ct env S) := Iff.rfl
@[simp] theorem EnsS_bad : EnsS .bad P ↔ False := Iff.rfl
@[simp] theorem EnsS_ite {c : Prop} [Decidable c] {x y : RS} : EnsS (if c then x else y) P ↔ (c → EnsS x P) ∧ (¬ c → EnsS y P) := by
  by_cases h : c
  · simp [h]
  · simp [h]
theorem EnsS.mono {r : RS} {P' : RS → Prop} (h : EnsS r P) (k : ∀ r, P r → P' r) : EnsS r P' := by
  cases r with
  | nx env S => exact k _ h
  | rt d S => exact k _ h
  | bk env S => exact k _ h
  | ct env S => exact k _ h
  | exc C fs env S => exact h
  | bad => exact h
@[simp] theorem EnsS_of {r : R α} {f : α → Sto → RS} : EnsS (RS.of r env f) P ↔ Ens r fun a S => EnsS (f a S) P := by cases r <;> exact Iff.rfl
def RS.then (P : RS → Prop) (n : SM) (r : RS) : Prop := match r with
  | .nx env S => EnsS (n env S) P
  | r => P r
@[simp] theorem then_nx {n : SM} : RS.then P n (.nx env S) ↔ EnsS (n env S) P := Iff.rfl
@[simp] theorem then_rt {n : SM} {d : D} : RS.then P n (.rt d S) ↔ P (.rt d S) := Iff.rfl
@[simp] theorem then_bk {n : SM} : RS.then P n (.bk env S) ↔ P (.bk env S) := Iff.rfl
@[simp] theorem then_ct {n : SM} : RS.then P n (.ct env S) ↔ P (.ct env S) := Iff.rfl
@[simp] theorem EnsS_sSeq {m n : SM} : EnsS (sSeq m n env S) P ↔ EnsS (m env S) (RS.then P n) := by
  unfold sSeq
  cases m env S <;> exact Iff.rfl
@[simp] theorem EnsS_sNil : EnsS (sNil env S) P ↔ P (.nx env S) := Iff.rfl
@[simp] theorem EnsS_sBk : EnsS (sBk env S) P ↔ P (.bk env S) := Iff.rfl
@[simp] theorem EnsS_sCt : EnsS (sCt env S) P ↔ P (.ct env S) := Iff.rfl
@[simp] theorem EnsS_sRetN : EnsS (sRetN env S) P ↔ P (.rt .non S) := Iff.rfl
@[simp] theorem EnsS_sBad : EnsS (sBad env S) P ↔ False := Iff.rfl
@[simp] theorem EnsS_sRet {m : TM} : EnsS (sRet m env S) P ↔ Ens (m env S) fun d S1 => P (.rt d S1) := by unfold sRet; simp
@[simp] theorem EnsS_sDrop {m : TM} : EnsS (sDrop m env S) P ↔ Ens (m env S) fun d S1 => P (.nx env S1) := by unfold sDrop; simp
@[simp] theorem EnsS_sIf {t : BM} {m n : SM} : EnsS (sIf t m n env S) P ↔ Ens (t env S) fun a S1 => (a = true → EnsS (m env S1) P) ∧ (a = false → EnsS (n env S1) P) := by unfold sIf; simp
/-- a target that takes what it is given -/
@[simp] theorem EnsS_sAsg {m : TM} {g : GM} : EnsS (sAsg m g env S) P ↔ Ens (m env S) fun d S1 => Ens (g d env S1) fun env' S' => P (.nx env' S') := by
  unfold sAsg
  simp only [EnsS_of]
  constructor <;> exact fun h => h.mono fun a S h => by
    revert h
    cases g a env S <;> exact id
@[simp] theorem EnsS_sPar {is : List Nat} {n : AM} : EnsS (sPar is n env S) P ↔ Ens (n env S) fun l S1 => if l.length = is.length then P (.nx ((is.zip l).foldl (fun en p => en.set p.1 (some p.2)) env) S1) else False := by
  unfold sPar
  simp only [EnsS_of]
  constructor <;> exact fun h => h.mono fun a S h => by
    by_cases q : a.length = is.length
    · rw [if_pos q] at *; exact h
    · rw [if_neg q] at *; exact h
def endP (P : D → Sto → Prop) (r : RS) : Prop := match r with
  | .nx _ S => P .non S
  | .rt d S => P d S
  | _ => False
section
variable {Pd : D → Sto → Prop}
@[simp] theorem endP_nx : endP Pd (.nx env S) ↔ Pd .non S := Iff.rfl
@[simp] theorem endP_rt {d : D} : endP Pd (.rt d S) ↔ Pd d S := Iff.rfl
@[simp] theorem endP_bk : endP Pd (.bk env S) ↔ False := Iff.rfl
@[simp] theorem endP_ct : endP Pd (.ct env S) ↔ False := Iff.rfl
@[simp] theorem Ens_fnP {n : Nat} {b : SM} {ds : List D} : Ens (fnP n b ds S) Pd ↔ EnsS (b (startE n ds) S) (endP Pd) := by
  unfold fnP
  cases b (startE n ds) S <;> exact Iff.rfl
end
variable {Pe : En → Sto → Prop} {d : D}
@[simp] theorem gN_ok {i : Nat} : gN i d env S = .ok (env.set i (some d)) S := rfl
@[simp] theorem Ens_gT {gs : List GM} : Ens (gT gs d env S) Pe ↔ Ens (R.of (seqD S d) S) fun l S1 => Ens (gT.go gs l env S1) Pe := by
  unfold gT
  cases seqD S d <;> exact Iff.rfl
@[simp] theorem go_nil : gT.go [] [] env S = .ok env S := rfl
@[simp] theorem Ens_go {g : GM} {gs : List GM} {ds : List D} : Ens (gT.go (g :: gs) (d :: ds) env S) Pe ↔ Ens (g d env S) fun env1 S1 => Ens (gT.go gs ds env1 S1) Pe := by
  show Ens ((g d env S).bind fun env1 S1 => gT.go gs ds env1 S1) Pe ↔ _
  simp
@[simp] theorem Ens_gSet {mo mi : TM} : Ens (gSet mo mi d env S) Pe ↔ Ens (mo env S) fun o S1 => Ens (mi env S1) fun i S2 => Ens (R.of (setD S2 o i d) S2) fun S3 _ => Pe env S3 := by
  unfold gSet
  simp only [Ens_bind]
  constructor <;> exact fun h => h.mono fun a S h => h.mono fun b S h => by
    revert h
    cases setD S a b d <;> exact id
/-! methods -/
@[simp] theorem Ens_mM {T : String} {g : GMt} {m : TM} {n : AM} {Pd : D → Sto → Prop} : Ens (mM T g m n env S) Pd ↔ Ens (m env S) fun o S1 => isT S1 T o = true ∧ Ens (n env S1) fun ds S2 => Ens (R.of (g S2 o ds) S2) fun z _ => Pd z.1 z.2 := by
  unfold mM
  simp only [Ens_bind]
  constructor
  · intro h
    refine h.mono fun a S h => ?_
    by_cases q : isT S T a = true
    · rw [if_pos q] at h
      simp only [Ens_bind] at h
      refine ⟨q, h.mono fun b S h => ?_⟩
      revert h
      cases g S a b <;> exact id
    · rw [if_neg q] at h; exact h.elim
  · intro h
    refine h.mono fun a S h => ?_
    rw [if_pos h.1]
    simp only [Ens_bind]
    refine h.2.mono fun b S h => ?_
    revert h
    cases g S a b <;> exact id
/-! loops -/
def loopP (P : RS → Prop) (k : En → Sto → Prop) (r : RS) : Prop := match r with
  | .nx env S => k env S
  | .ct env S => k env S
  | .bk env S => P (.nx env S)
  | r => P r
@[simp] theorem loopP_nx {k : En → Sto → Prop} : loopP P k (.nx env S) ↔ k env S := Iff.rfl
@[simp] theorem loopP_ct {k : En → Sto → Prop} : loopP P k (.ct env S) ↔ k env S := Iff.rfl
@[simp] theorem loopP_bk {k : En → Sto → Prop} : loopP P k (.bk env S) ↔ P (.nx env S) := Iff.rfl
@[simp] theorem loopP_rt {k : En → Sto → Prop} : loopP P k (.rt d S) ↔ P (.rt d S) := Iff.rfl
theorem EnsS_for_nil {g : GM} {body : SM} {gd : Sto → Prop} : EnsS (forD g body gd [] env S) P ↔ gd S ∧ P (.nx env S) := by
  unfold forD
  by_cases h : gd S <;> simp [h]
theorem EnsS_for_cons {g : GM} {body : SM} {gd : Sto → Prop} {ds : List D} : EnsS (forD g body gd (d :: ds) env S) P ↔ gd S ∧ Ens (g d env S) fun env1 S1 => EnsS (body env1 S1) (loopP P fun env2 S2 => EnsS (forD g body gd ds env2 S2) P) := by
  rw [forD]
  by_cases h : gd S
  · simp only [h, if_true, true_and]
    cases g d env S with
    | ok env1 S1 =>
      simp only [Ens_ok]
      cases body env1 S1 <;> exact Iff.rfl
    | exc C fs S1 => exact Iff.rfl
    | bad => exact Iff.rfl
  · simp [h]
@[simp] theorem EnsS_sFor {i : IM} {g : GM} {body : SM} : EnsS (sFor i g body env S) P ↔ Ens (i env S) fun p S1 => EnsS (forD g body p.2 p.1 env S1) P := by unfold sFor; simp
/-- a loop with an invariant -/
theorem for_inv {g : GM} {body : SM} {gd : Sto → Prop} (Inv : Nat → En → Sto → Prop) : ∀ (ds : List D) (k : Nat) (env : En) (S : Sto), Inv k env S →
    (∀ i env S, k ≤ i → i ≤ k + ds.length → Inv i env S → gd S) →
    (∀ i d env S, k ≤ i → ds[i - k]? = some d → Inv i env S → Ens (g d env S) fun env1 S1 => EnsS (body env1 S1) (loopP P (Inv (i + 1)))) →
    (∀ env S, Inv (k + ds.length) env S → P (.nx env S)) → EnsS (forD g body gd ds env S) P
  | [], k, env, S, h0, hg, hs, he => EnsS_for_nil.mpr ⟨hg k env S (Nat.le_refl _) (by simp) h0, he env S h0⟩
  | d :: ds, k, env, S, h0, hg, hs, he => EnsS_for_cons.mpr ⟨hg k env S (Nat.le_refl _) (by simp) h0, (hs k d env S (Nat.le_refl _) (by simp) h0).mono fun env1 S1 h1 => h1.mono fun r h2 => by
      have key : ∀ env2 S2, Inv (k + 1) env2 S2 → EnsS (forD g body gd ds env2 S2) P := fun env2 S2 h3 =>
        for_inv Inv ds (k + 1) env2 S2 h3 (fun i env S h4 h5 h6 => hg i env S (by omega) (by simp; omega) h6)
          (fun i e env S h4 h5 h6 => hs i e env S (by omega) (by
            have : i - k = (i - (k + 1)) + 1 := by omega
            rw [this, List.getElem?_cons_succ]; exact h5) h6) (fun env S h4 => he env S (by
            have : k + (d :: ds).length = k + 1 + ds.length := by simp; omega
            rw [this]; exact h4))
      cases r with
      | nx env2 S2 => exact key env2 S2 h2
      | ct env2 S2 => exact key env2 S2 h2
      | bk env2 S2 => exact h2
      | rt d2 S2 => exact h2
      | exc C fs env2 S2 => exact h2
      | bad => exact h2⟩
/-! while -/
theorem EnsS_while {c : BM} {body : SM} : EnsS (sWhile c body env S) P ↔ Ens (c env S) fun b S1 => (b = true → EnsS (body env S1) (loopP P fun env2 S2 => EnsS (sWhile c body env2 S2) P)) ∧ (b = false → P (.nx env S1)) := by
  rw [sWhile_unfold]
  simp only [EnsS_of]
  constructor <;> exact fun h => h.mono fun a S h => by
    cases a with
    | false => simpa using h
    | true =>
      simp only [if_true] at h ⊢
      first
        | refine ⟨fun _ => ?_, fun z => by cases z⟩
          revert h
          cases body env S <;> exact id
        | have h := h.1 trivial
          revert h
          cases body env S <;> exact id
/-! comprehensions -/
variable {Pl : List D → Sto → Prop} {Pd : D → Sto → Prop} {g : GM} {tt : BM} {te : TM} {gd : Sto → Prop} {acc : List D} {ds : List D}
theorem Ens_lc_nil : Ens (lcD g tt te gd env [] S acc) Pl ↔ gd S ∧ Pl acc S := by
  rw [lcD]
  by_cases h : gd S <;> simp [h]
theorem Ens_lc_cons : Ens (lcD g tt te gd env (d :: ds) S acc) Pl ↔ gd S ∧ Ens (g d env S) fun env1 S1 => Ens (tt env1 S1) fun b S2 =>
    (b = true → Ens (te env1 S2) fun y S3 => acc.length < 16777216 ∧ Ens (lcD g tt te gd env ds S3 (acc ++ [y])) Pl) ∧ (b = false → Ens (lcD g tt te gd env ds S2 acc) Pl) := by
  rw [lcD]
  by_cases h : gd S
  · simp only [h, if_true, true_and]
    cases g d env S with
    | bad => exact Iff.rfl
    | exc C fs S1 => exact Iff.rfl
    | ok env1 S1 =>
      simp only [Ens_ok]
      cases tt env1 S1 with
      | bad => exact Iff.rfl
      | exc C fs S1 => exact Iff.rfl
      | ok b S2 =>
        simp only [Ens_ok]
        cases b with
        | false => simp
        | true =>
          simp only [if_true]
          cases te env1 S2 with
          | bad => simp
          | exc C fs S1 => simp [Ens]
          | ok y S3 =>
            simp only [Ens_ok, Ens_ite, Ens_bad]
            by_cases q : acc.length < 16777216 <;> simp [q]
  · simp [h]
@[simp] theorem Ens_mLc {i : IM} {vs : List Nat} : Ens (mLc i g tt te vs env S) Pd ↔ Ens (i env S) fun p S1 => Ens (lcD g tt te p.2 (wipeE env vs) p.1 S1 []) fun l S2 => Pd (.lst l) S2 := by unfold mLc; simp
@[simp] theorem Ens_mLcN {i : IM} {vs : List Nat} : Ens (mLcN i g tt te vs env S) Pd ↔ Ens (i env S) fun p S1 => Ens (lcD g tt te p.2 (wipeE env vs) p.1 S1 []) fun l S2 => Pd (.loc S2.length) (S2 ++ [.lst l]) := by unfold mLcN; simp
/-- a comprehension with an invariant -/
theorem lc_inv (Inv : Nat → List D → Sto → Prop) : ∀ (ds : List D) (k : Nat) (acc : List D) (S : Sto), Inv k acc S →
    (∀ i acc S, k ≤ i → i ≤ k + ds.length → Inv i acc S → gd S) →
    (∀ i d acc S, k ≤ i → ds[i - k]? = some d → Inv i acc S → Ens (g d env S) fun env1 S1 => Ens (tt env1 S1) fun b S2 => (b = true → Ens (te env1 S2) fun y S3 => acc.length < 16777216 ∧ Inv (i + 1) (acc ++ [y]) S3) ∧ (b = false → Inv (i + 1) acc S2)) →
    (∀ acc S, Inv (k + ds.length) acc S → Pl acc S) → Ens (lcD g tt te gd env ds S acc) Pl
  | [], k, acc, S, h0, hg, hs, he => Ens_lc_nil.mpr ⟨hg k acc S (Nat.le_refl _) (by simp) h0, he acc S h0⟩
  | d :: ds, k, acc, S, h0, hg, hs, he => Ens_lc_cons.mpr ⟨hg k acc S (Nat.le_refl _) (by simp) h0, (hs k d acc S (Nat.le_refl _) (by simp) h0).mono fun env1 S1 h1 => h1.mono fun b S2 h2 => by
      have key : ∀ acc S, Inv (k + 1) acc S → Ens (lcD g tt te gd env ds S acc) Pl := fun acc S h3 =>
        lc_inv Inv ds (k + 1) acc S h3 (fun i acc S h4 h5 h6 => hg i acc S (by omega) (by simp; omega) h6)
          (fun i e acc S h4 h5 h6 => hs i e acc S (by omega) (by
            have : i - k = (i - (k + 1)) + 1 := by omega
            rw [this, List.getElem?_cons_succ]; exact h5) h6) (fun acc S h4 => he acc S (by
            have : k + (d :: ds).length = k + 1 + ds.length := by simp; omega
            rw [this]; exact h4))
      exact ⟨fun e => (h2.1 e).mono fun y S3 h3 => ⟨h3.1, key _ _ h3.2⟩, fun e => key _ _ (h2.2 e)⟩⟩
/-! dict displays -/
section
variable {Pp : List (D × D) → Sto → Prop} {n : PM} {mk mv : TM}
@[simp] theorem Ens_pNil : Ens (pNil env S) Pp ↔ Pp [] S := Iff.rfl
@[simp] theorem Ens_pCons : Ens (pCons mk mv n env S) Pp ↔ Ens (mk env S) fun a S1 => Ens (mv env S1) fun b S2 => Ens (n env S2) fun l S3 => Pp ((a, b) :: l) S3 := by unfold pCons; simp
@[simp] theorem Ens_mDict : Ens (mDict n env S) Pd ↔ Ens (n env S) fun ps S1 => Ens (R.of (kvsD ps) S1) fun kvs S2 => kvs.length ≤ 15 ∧ Pd (.loc S2.length) (S2 ++ [.dct (mergeD [] kvs)]) := by
  unfold mDict
  simp only [Ens_bind]
  constructor <;> exact fun h => h.mono fun a S h => by
    revert h
    cases kvsD a with
    | none => exact id
    | some kvs => by_cases q : kvs.length ≤ 15 <;> simp [q]
end
/-! what is walked -/
variable {Pi : List D × (Sto → Prop) → Sto → Prop} {n : AM} {m : TM}
@[simp] theorem Ens_iSeq : Ens (iSeq m env S) Pi ↔ Ens (m env S) fun d S1 => Ens (R.of (seqD S1 d) S1) fun l S2 => Pi (l, gdSeq d l) S2 := by
  unfold iSeq
  simp only [Ens_bind]
  constructor <;> exact fun h => h.mono fun a S h => by
    revert h
    cases seqD S a <;> exact id
@[simp] theorem gdSeq_tup {l : List D} : gdSeq (.tup l) ds S ↔ True := Iff.rfl
@[simp] theorem gdSeq_lst {l : List D} : gdSeq (.lst l) ds S ↔ True := Iff.rfl
@[simp] theorem gdSeq_wls {l : List D} : gdSeq (.wls l) ds S ↔ True := Iff.rfl
@[simp] theorem gdSeq_loc {n : Nat} : gdSeq (.loc n) ds S ↔ seqD S (.loc n) = some ds := Iff.rfl
@[simp] theorem Ens_iRng1 : Ens (iRng1 n env S) Pi ↔ Ens (n env S) fun l S1 => Ens (R.of (one1 l) S1) fun j S2 => (-1000000000 ≤ j ∧ j ≤ 1000000000) ∧ Pi (rangeD 0 j.toNat, fun _ => True) S2 := by
  unfold iRng1
  simp only [Ens_bind]
  constructor <;> exact fun h => h.mono fun a S h => by
    revert h
    rcases a with _ | ⟨d, _ | ⟨e, r⟩⟩
    · exact id
    · cases d with
      | int j =>
        by_cases q : -1000000000 ≤ j ∧ j ≤ 1000000000
        · simp [q, one1]
        · simp [q, one1]
      | _ => exact id
    · cases d <;> exact id
def zipR (ds : List D) (S1 : Sto) : R (List D × (Sto → Prop)) := match ds with
  | [.tup l, .tup m] => .ok (zipD l m, fun _ => True) S1
  | [a, b] => match lstD S1 a, lstD S1 b with
    | some l, some m => .ok (zipD l m, fun S => gdSeq a l S ∧ gdSeq b m S) S1
    | _, _ => .bad
  | _ => .bad
@[simp] theorem zipR_tup {l m : List D} : zipR [.tup l, .tup m] S = .ok (zipD l m, fun _ => True) S := rfl
@[simp] theorem Ens_iZipD : Ens (iZipD n env S) Pi ↔ Ens (n env S) fun l S1 => Ens (zipR l S1) Pi := by
  show Ens ((n env S).bind zipR) Pi ↔ _
  simp
@[simp] theorem seqD_tup {l : List D} : seqD S (.tup l) = some l := rfl
@[simp] theorem seqD_lst {l : List D} : seqD S (.lst l) = some l := rfl
@[simp] theorem seqD_wls {l : List D} : seqD S (.wls l) = some l := rfl
@[simp] theorem lstD_lst {l : List D} : lstD S (.lst l) = some l := rfl
@[simp] theorem lstD_wls {l : List D} : lstD S (.wls l) = some l := rfl
@[simp] theorem slD_tup {l : List D} {lo hi : Option Int} : slD S (.tup l) lo hi = some (.tup (cutD l lo hi)) := rfl
@[simp] theorem slD_lst {l : List D} {lo hi : Option Int} : slD S (.lst l) lo hi = some (.lst (cutD l lo hi)) := rfl
@[simp] theorem slD_wls {l : List D} {lo hi : Option Int} : slD S (.wls l) lo hi = some (.lst (cutD l lo hi)) := rfl
@[simp] theorem ixD_tup {l : List D} {i : Int} : ixD S (.tup l) (.int i) = L2.atI l i := rfl
@[simp] theorem ixD_lst {l : List D} {i : Int} : ixD S (.lst l) (.int i) = L2.atI l i := rfl
@[simp] theorem lenD_tup {l : List D} : lenD S [.tup l] = some (.int l.length) := rfl
@[simp] theorem lenD_lst {l : List D} : lenD S [.lst l] = some (.int l.length) := rfl
@[simp] theorem absD_int {i : Int} : absD S [.int i] = some (.int (if i < 0 then -i else i)) := rfl
@[simp] theorem max2D_int {i j : Int} : max2D S [.int i, .int j] = some (.int (if j > i then j else i)) := rfl
@[simp] theorem min2D_int {i j : Int} : min2D S [.int i, .int j] = some (.int (if j < i then j else i)) := rfl
@[simp] theorem intfD_int {i : Int} : intfD S [.int i] = some (.int i) := rfl
@[simp] theorem tupleD_lst {l : List D} : tupleD S [.lst l] = some (.tup l) := rfl
@[simp] theorem atI_0 {a : D} {l : List D} : L2.atI (a :: l) 0 = some a := by simp [L2.atI, L2.ixN]
@[simp] theorem atI_1 {a b : D} {l : List D} : L2.atI (a :: b :: l) 1 = some b := by
  have : (1 : Int) < (l.length : Int) + 1 + 1 := by omega
  simp [L2.atI, L2.ixN, this]
@[simp] theorem atI_2 {a b c : D} {l : List D} : L2.atI (a :: b :: c :: l) 2 = some c := by
  have : (2 : Int) < (l.length : Int) + 1 + 1 + 1 := by omega
  simp [L2.atI, L2.ixN, this]
@[simp] theorem atI_3 {a b c d : D} {l : List D} : L2.atI (a :: b :: c :: d :: l) 3 = some d := by
  have : (3 : Int) < (l.length : Int) + 1 + 1 + 1 + 1 := by omega
  simp [L2.atI, L2.ixN, this]
theorem atI_nat {l : List D} {i : Int} (h0 : 0 ≤ i) (h1 : i < l.length) : ∃ d, L2.atI l i = some d ∧ l[i.toNat]? = some d := by
  have h : i.toNat < l.length := by omega
  refine ⟨l[i.toNat], ?_, by simp [h]⟩
  unfold L2.atI L2.ixN
  simp [h0, h1, h]
end
end Mi

namespace Mi
open PySem PySem.Spec PyProof.Rows L2
/-! ### equality of plain data -/
@[simp] theorem eqD_int {S : Sto} {i j : Int} : eqD S (.int i) (.int j) = some (.bl (decide (i = j))) := by
  simp only [eqD, der, D.py, SeqAt.shaped, PyData.canLay0, PyData.depth, PyData.eqv]
  by_cases h : i = j <;> simp [h]
@[simp] theorem neD_int {S : Sto} {i j : Int} : neD S (.int i) (.int j) = some (.bl (decide (i ≠ j))) := by
  simp only [neD, der, D.py, SeqAt.shaped, PyData.canLay0, PyData.depth, PyData.eqv]
  by_cases h : i = j <;> simp [h]
@[simp] theorem eqD_bl {S : Sto} {i j : Bool} : eqD S (.bl i) (.bl j) = some (.bl (decide (i = j))) := by
  cases i <;> cases j <;> simp [eqD, der, D.py, SeqAt.shaped, PyData.canLay0, PyData.depth, PyData.eqv]
@[simp] theorem eqD_b3 {S : Sto} {a b c : Bool} : eqD S (.tup [.bl a, .bl b, .bl c]) (.tup [.bl a, .bl b, .bl c]) = some (.bl true) := by
  cases a <;> cases b <;> cases c <;> simp [eqD, der, D.py, D.pys, SeqAt.shaped, PyData.canLay0, PyData.canLayAll0, PyData.depth, PyData.depthAll, PyData.eqv, PyData.eqvAll]
theorem eqD_str {S : Sto} {x : Str} (h : SeqAt.shaped (.str x) = true) : eqD S (.str x) (.str x) = some (.bl true) := by
  simp [eqD, der, D.py, h, PyData.eqv]
theorem eqv3 {a b c x y z : Int} : PyData.eqv (.tuple [.int a, .int b, .int c]) (.tuple [.int x, .int y, .int z]) = decide (a = x ∧ b = y ∧ c = z) := by
  by_cases h1 : a = x <;> by_cases h2 : b = y <;> by_cases h3 : c = z <;> simp [PyData.eqv, PyData.eqvAll, h1, h2, h3]
@[simp] theorem eqD_3 {S : Sto} {a b c x y z : Int} : eqD S (.tup [.int a, .int b, .int c]) (.tup [.int x, .int y, .int z]) = some (.bl (decide (a = x ∧ b = y ∧ c = z))) := by
  have e : eqD S (.tup [.int a, .int b, .int c]) (.tup [.int x, .int y, .int z]) = some (.bl (PyData.eqv (.tuple [.int a, .int b, .int c]) (.tuple [.int x, .int y, .int z]))) := by
    simp [eqD, der, D.py, D.pys, SeqAt.shaped, PyData.canLay0, PyData.canLayAll0, PyData.depth, PyData.depthAll]
  rw [e, eqv3]
@[simp] theorem neD_3 {S : Sto} {a b c x y z : Int} : neD S (.tup [.int a, .int b, .int c]) (.tup [.int x, .int y, .int z]) = some (.bl (decide (¬ (a = x ∧ b = y ∧ c = z)))) := by
  have e : neD S (.tup [.int a, .int b, .int c]) (.tup [.int x, .int y, .int z]) = some (.bl (!PyData.eqv (.tuple [.int a, .int b, .int c]) (.tuple [.int x, .int y, .int z]))) := by
    simp [neD, der, D.py, D.pys, SeqAt.shaped, PyData.canLay0, PyData.canLayAll0, PyData.depth, PyData.depthAll]
  rw [e, eqv3, decide_not]
theorem pys_int {l : List Int} : PyData.canLayAll0 (D.pys (l.map D.int)) = true ∧ PyData.depthAll (D.pys (l.map D.int)) = 0 := by
  induction l with
  | nil => exact ⟨rfl, rfl⟩
  | cons a l ih => simp [D.pys, D.py, PyData.canLayAll0, PyData.depthAll, PyData.canLay0, PyData.depth, ih]
@[simp] theorem neD_nil {S : Sto} {n : Nat} {l : List Int} (h : S[n]? = some (.lst (l.map D.int))) : neD S (.loc n) (.lst []) = some (.bl (decide (l ≠ []))) := by
  have e : der S (.loc n) = .lst (l.map D.int) := by simp [der, h]
  unfold neD
  rw [e]
  have h1 := (pys_int (l := l)).1
  have h2 := (pys_int (l := l)).2
  have s1 : SeqAt.shaped (D.lst (l.map D.int)).py = true := by simp [SeqAt.shaped, D.py, PyData.canLay0, PyData.depth, h1, h2]
  have s2 : SeqAt.shaped (der S (D.lst [])).py = true := by simp [der, SeqAt.shaped, D.py, D.pys, PyData.canLay0, PyData.canLayAll0, PyData.depthAll, PyData.depth]
  rw [if_pos ⟨s1, s2⟩]
  cases l with
  | nil => simp [der, D.py, D.pys, PyData.eqv, PyData.eqvAll]
  | cons a l => simp [der, D.py, D.pys, PyData.eqv, PyData.eqvAll]
/-! ### a law's deck: the cells, a number, how many draws there were -/
def deckS (c : List Int) (m n : Int) (T : Sto) : Sto := .lst (c.map D.int) :: .dct [(.inr "left", .loc 0), (.inr "mixed", .int m), (.inr "draws", .int n)] :: T
section
variable {c : List Int} {m n k : Int} {T : Sto}
@[simp] theorem dk_left : ixD (deckS c m n T) (.loc 1) (.str "left") = some (.loc 0) := by rfl
@[simp] theorem dk_mixed : ixD (deckS c m n T) (.loc 1) (.str "mixed") = some (.int m) := by rfl
@[simp] theorem dk_draws : ixD (deckS c m n T) (.loc 1) (.str "draws") = some (.int n) := by rfl
@[simp] theorem dk_set : setD (deckS c m n T) (.loc 1) (.str "draws") (.int k) = some (deckS c m k T) := by rfl
@[simp] theorem dk_isT : isT (deckS c m n T) "list" (.loc 0) = true := by rfl
@[simp] theorem dk_ne : neD (deckS c m n T) (.loc 0) (.lst []) = some (.bl (decide (c ≠ []))) := neD_nil rfl
theorem dk_pop (h : c ≠ []) : popD (deckS c m n T) (.loc 0) [] = some (.int (c.getLast h), deckS c.dropLast m n T) := by
  have hl : 0 < c.length := List.length_pos_iff.mpr h
  have e : (c.map D.int)[(c.map D.int).length - 1]? = some (.int (c.getLast h)) := by
    rw [List.length_map, List.getElem?_map, List.getLast_eq_getElem]
    simp [hl]
  show (match (c.map D.int)[(c.map D.int).length - 1]? with
    | some y => some (y, (deckS c m n T).set 0 (.lst (c.map D.int).dropLast))
    | none => none) = _
  rw [e]
  simp [deckS, List.map_dropLast]
theorem dk_app (h : c.length ≤ 63) : appD (deckS c m n T) (.loc 0) [.int k] = some (.non, deckS (c ++ [k]) m n T) := by
  show (if (c.map D.int).length < 16777216 then some (D.non, (deckS c m n T).set 0 (.lst (c.map D.int ++ [.int k]))) else none) = _
  rw [if_pos (by simp; omega)]
  simp [deckS]
/-- at most N draws so far -/
def DkP (N : Nat) (T S : Sto) : Prop := ∃ c m n, S = deckS c m n T ∧ c.length ≤ 63 ∧ 0 ≤ m ∧ m < 2147483629 ∧ 0 ≤ n ∧ n ≤ (N : Int)
theorem DkP.up {N M : Nat} {T S : Sto} (h : DkP N T S) (k : N ≤ M) : DkP M T S := by
  obtain ⟨c, m, n, h1, h2, h3, h4, h5, h6⟩ := h
  exact ⟨c, m, n, h1, h2, h3, h4, h5, by omega⟩
end
end Mi

namespace Mi
open PySem PySem.Spec PyProof.Rows L2
/-! ### greatest common divisors, lowest terms -/
def g2 (x y : Int) : Int := (Int.gcd x y : Int)
def g3 (x y w : Int) : Int := g2 (g2 x y) w
theorem g2_nonneg (x y : Int) : 0 ≤ g2 x y := Int.natCast_nonneg _
theorem g2_dvd_left (x y : Int) : g2 x y ∣ x := Int.gcd_dvd_left ..
theorem g2_dvd_right (x y : Int) : g2 x y ∣ y := Int.gcd_dvd_right ..
theorem g2_pos {x y : Int} (h : 0 < y) : 0 < g2 x y := by
  have := Int.gcd_pos_of_ne_zero_right x (b := y) (by omega)
  unfold g2; omega
theorem g2_le {x y : Int} (h : 0 < y) : g2 x y ≤ y := Int.le_of_dvd h (g2_dvd_right x y)
theorem g3_pos {x y w : Int} (h : 0 < w) : 0 < g3 x y w := g2_pos h
theorem g3_le {x y w : Int} (h : 0 < w) : g3 x y w ≤ w := g2_le h
theorem g3_dvd {x y w : Int} : g3 x y w ∣ x ∧ g3 x y w ∣ y ∧ g3 x y w ∣ w :=
  ⟨Int.dvd_trans (g2_dvd_left _ _) (g2_dvd_left _ _), Int.dvd_trans (g2_dvd_left _ _) (g2_dvd_right _ _), g2_dvd_right _ _⟩
theorem g2_scale {h x y : Int} (hh : 0 ≤ h) : g2 (h * x) (h * y) = h * g2 x y := by
  unfold g2
  rw [Int.gcd_mul_left]
  have : (h.natAbs : Int) = h := by omega
  rw [Int.natCast_mul, this]
theorem g3_scale {h x y w : Int} (hh : 0 ≤ h) : g3 (h * x) (h * y) (h * w) = h * g3 x y w := by
  unfold g3
  rw [g2_scale hh, g2_scale hh]
theorem bd_g2 {x y : Int} {m : Nat} [b : Bd y m] (h : 0 < y) : Bd (g2 x y) m := by
  have h1 := g2_le (x := x) h
  have h2 := g2_nonneg x y
  have h3 := b.hi
  have h4 := b.lo
  exact bd_lt (by omega) (by omega)
/-- a spot in lowest terms, as data -/
def spD3 (x y w : Int) : D := .tup [.int (x / g3 x y w), .int (y / g3 x y w), .int (w / g3 x y w)]
def frD (n d : Int) : D := .tup [.int (n / g2 n d), .int (d / g2 n d)]
theorem mul_div_scale {h x g : Int} (hh : 0 < h) : h * x / (h * g) = x / g := Int.mul_ediv_mul_of_pos x g hh
theorem spD3_scale {h x y w : Int} (hh : 0 < h) : spD3 (h * x) (h * y) (h * w) = spD3 x y w := by
  unfold spD3
  rw [g3_scale (by omega), mul_div_scale hh, mul_div_scale hh, mul_div_scale hh]
theorem spD3_eq {x y w X Y Z : Int} (hw : 0 < w) (hZ : 0 < Z) (h1 : x * Z = X * w) (h2 : y * Z = Y * w) : spD3 x y w = spD3 X Y Z := by
  have e1 : Z * x = w * X := by rw [Int.mul_comm, h1, Int.mul_comm]
  have e2 : Z * y = w * Y := by rw [Int.mul_comm, h2, Int.mul_comm]
  have e3 : Z * w = w * Z := Int.mul_comm ..
  calc spD3 x y w = spD3 (Z * x) (Z * y) (Z * w) := (spD3_scale hZ).symm
    _ = spD3 (w * X) (w * Y) (w * Z) := by rw [e1, e2, e3]
    _ = spD3 X Y Z := spD3_scale hw
theorem spD3_low {x y w : Int} (h : g3 x y w = 1) : spD3 x y w = .tup [.int x, .int y, .int w] := by
  unfold spD3
  rw [h, Int.ediv_one, Int.ediv_one, Int.ediv_one]
theorem frD_scale {h n d : Int} (hh : 0 < h) : frD (h * n) (h * d) = frD n d := by
  unfold frD
  rw [g2_scale (by omega), mul_div_scale hh, mul_div_scale hh]
/-- the parts of lowest terms -/
theorem low_parts {x y w : Int} (hw : 0 < w) : ∃ g a b c, 0 < g ∧ x = g * a ∧ y = g * b ∧ w = g * c ∧ 0 < c ∧ c ≤ w ∧ g3 a b c = 1 ∧ spD3 x y w = .tup [.int a, .int b, .int c] ∧ a.natAbs ≤ x.natAbs ∧ b.natAbs ≤ y.natAbs := by
  have hg := g3_pos (x := x) (y := y) hw
  obtain ⟨⟨a, ha⟩, ⟨b, hb⟩, ⟨c, hc⟩⟩ := g3_dvd (x := x) (y := y) (w := w)
  have hg0 : g3 x y w ≠ 0 := by omega
  have e1 : x / g3 x y w = a := by
    conv => lhs; lhs; rw [ha]
    exact Int.mul_ediv_cancel_left a hg0
  have e2 : y / g3 x y w = b := by
    conv => lhs; lhs; rw [hb]
    exact Int.mul_ediv_cancel_left b hg0
  have e3 : w / g3 x y w = c := by
    conv => lhs; lhs; rw [hc]
    exact Int.mul_ediv_cancel_left c hg0
  have hcp : 0 < c := by
    rcases Int.lt_trichotomy c 0 with q | q | q
    · have := Int.mul_neg_of_pos_of_neg hg q
      omega
    · subst q; simp at hc; omega
    · exact q
  refine ⟨g3 x y w, a, b, c, hg, ha, hb, hc, hcp, ?_, ?_, ?_, ?_, ?_⟩
  · have : c * 1 ≤ c * g3 x y w := Int.mul_le_mul_of_nonneg_left (by omega) (by omega)
    rw [Int.mul_comm c (g3 x y w), ← hc] at this
    omega
  · have h1 := g3_scale (h := g3 x y w) (x := a) (y := b) (w := c) (by omega)
    rw [← ha, ← hb, ← hc] at h1
    have h2 : g3 x y w * 1 = g3 x y w * g3 a b c := by rw [Int.mul_one]; exact h1
    exact (Int.eq_of_mul_eq_mul_left hg0 h2).symm
  · unfold spD3
    rw [e1, e2, e3]
  · have q := congrArg Int.natAbs ha
    rw [Int.natAbs_mul] at q
    rw [q]
    exact Nat.le_mul_of_pos_left _ (by omega)
  · have q := congrArg Int.natAbs hb
    rw [Int.natAbs_mul] at q
    rw [q]
    exact Nat.le_mul_of_pos_left _ (by omega)
theorem fr_parts {n d : Int} (hd : 0 < d) : ∃ g a b, 0 < g ∧ n = g * a ∧ d = g * b ∧ 0 < b ∧ frD n d = .tup [.int a, .int b] ∧ a.natAbs ≤ n.natAbs ∧ b ≤ d := by
  have hg := g2_pos (x := n) hd
  obtain ⟨a, ha⟩ := g2_dvd_left n d
  obtain ⟨b, hb⟩ := g2_dvd_right n d
  have hg0 : g2 n d ≠ 0 := by omega
  have e1 : n / g2 n d = a := by
    conv => lhs; lhs; rw [ha]
    exact Int.mul_ediv_cancel_left a hg0
  have e2 : d / g2 n d = b := by
    conv => lhs; lhs; rw [hb]
    exact Int.mul_ediv_cancel_left b hg0
  have hbp : 0 < b := by
    rcases Int.lt_trichotomy b 0 with q | q | q
    · have := Int.mul_neg_of_pos_of_neg hg q
      omega
    · subst q; simp at hb; omega
    · exact q
  refine ⟨g2 n d, a, b, hg, ha, hb, hbp, ?_, ?_, ?_⟩
  · unfold frD
    rw [e1, e2]
  · have q := congrArg Int.natAbs ha
    rw [Int.natAbs_mul] at q
    rw [q]
    exact Nat.le_mul_of_pos_left _ (by omega)
  · have : b * 1 ≤ b * g2 n d := Int.mul_le_mul_of_nonneg_left (by omega) (by omega)
    rw [Int.mul_comm b (g2 n d), ← hb] at this
    omega
/-- two whole numbers taken in turn, by remainders -/
theorem g2_step {a b : Int} (ha : 0 ≤ a) (hb : 0 < b) : g2 b (a % b) = g2 a b := by
  obtain ⟨p, rfl⟩ := Int.eq_ofNat_of_zero_le ha
  obtain ⟨q, rfl⟩ := Int.eq_ofNat_of_zero_le (Int.le_of_lt hb)
  have e : ((p : Int) % (q : Int)) = ((p % q : Nat) : Int) := (Int.natCast_emod p q).symm
  unfold g2
  rw [e]
  show ((Nat.gcd q (p % q) : Nat) : Int) = ((Nat.gcd p q : Nat) : Int)
  congr 1
  rw [Nat.gcd_comm q, ← Nat.gcd_rec, Nat.gcd_comm]
theorem g2_zero {a : Int} (ha : 0 ≤ a) : g2 a 0 = a := by
  unfold g2
  simp
  omega
theorem g2_abs {a b : Int} : g2 (if a < 0 then -a else a) (if b < 0 then -b else b) = g2 a b := by
  unfold g2
  split <;> split <;> simp
end Mi

namespace Mi
open PySem PySem.Spec PyProof.Rows L2
/-! ### more readings -/
section
variable {env : En} {S : Sto} {Pd : D → Sto → Prop} {Pi : List D × (Sto → Prop) → Sto → Prop} {n : AM}
@[simp] theorem addID_int {i j : Int} : addID S (.int i) (.int j) = some (.int (i + j)) := rfl
@[simp] theorem subID_int {i j : Int} : subID S (.int i) (.int j) = some (.int (i - j)) := rfl
def lstR (ds : List D) (S1 : Sto) : R D := match ds with
  | [d] => match seqD S1 d with
    | some l => R.new (.lst l) S1
    | none => .bad
  | _ => .bad
@[simp] theorem lstR_tup {l : List D} : lstR [.tup l] S = .ok (.loc S.length) (S ++ [.lst l]) := rfl
@[simp] theorem lstR_lst {l : List D} : lstR [.lst l] S = .ok (.loc S.length) (S ++ [.lst l]) := rfl
@[simp] theorem lstR_wls {l : List D} : lstR [.wls l] S = .ok (.loc S.length) (S ++ [.lst l]) := rfl
@[simp] theorem Ens_mListN : Ens (mListN n env S) Pd ↔ Ens (n env S) fun ds S1 => Ens (lstR ds S1) Pd := by
  show Ens ((n env S).bind lstR) Pd ↔ _
  simp
def enR (ds : List D) (S1 : Sto) : R (List D × (Sto → Prop)) := match ds with
  | [.tup l] => .ok (enumD l, fun _ => True) S1
  | [a] => match lstD S1 a with
    | some l => .ok (enumD l, gdSeq a l) S1
    | _ => .bad
  | _ => .bad
@[simp] theorem enR_tup {l : List D} : enR [.tup l] S = .ok (enumD l, fun _ => True) S := rfl
@[simp] theorem enR_lst {l : List D} : enR [.lst l] S = .ok (enumD l, gdSeq (.lst l) l) S := rfl
theorem enR_loc {k : Nat} {l : List D} (h : S[k]? = some (.lst l)) : enR [.loc k] S = .ok (enumD l, gdSeq (.loc k) l) S := by
  have : lstD S (.loc k) = some l := by simp [lstD, der, h]
  simp [enR, this]
@[simp] theorem Ens_iEnA : Ens (iEnA n env S) Pi ↔ Ens (n env S) fun ds S1 => Ens (enR ds S1) Pi := by
  show Ens ((n env S).bind enR) Pi ↔ _
  simp
theorem enum_get {l : List D} {i : Nat} {d : D} (h : (enumD l)[i]? = some d) : ∃ x, l[i]? = some x ∧ d = .tup [.int i, x] := by
  unfold enumD zipD at h
  rw [List.getElem?_map] at h
  cases e : ((rangeD 0 l.length).zip l)[i]? with
  | none => rw [e] at h; cases h
  | some p =>
    rw [e] at h
    cases h
    rw [List.getElem?_zip_eq_some] at e
    have hi : i < l.length := (List.getElem?_eq_some_iff.mp e.2).1
    have e1 := e.1
    rw [rangeD_get hi] at e1
    refine ⟨_, e.2, ?_⟩
    have : p.1 = D.int (i : Int) := by
      have := Option.some.inj e1
      rw [← this]; simp
    show D.tup [p.fst, p.snd] = _
    rw [this]
@[simp] theorem enum_len {l : List D} : (enumD l).length = l.length := by
  unfold enumD zipD
  rw [List.length_map, List.length_zip, rangeD_length, Nat.min_self]
@[simp] theorem Ens_mChain3 {g g' g'' : G2} {ma mb mc md : TM} : Ens (mChain3 g g' g'' ma mb mc md env S) Pd ↔ Ens (ma env S) fun a S1 => Ens (mb env S1) fun b S2 => Ens (R.of ((g S2 a b).bind blD) S2) fun t S3 =>
    (t = true → Ens (mc env S3) fun c S4 => Ens (R.of ((g' S4 b c).bind blD) S4) fun u S5 => (u = true → Ens (md env S5) fun d S6 => Ens (R.of (g'' S6 c d) S6) Pd) ∧ (u = false → Pd (.bl false) S5)) ∧ (t = false → Pd (.bl false) S3) := by
  unfold mChain3
  simp only [Ens_bind]
  constructor <;> exact fun h => h.mono fun a S h => h.mono fun b S h => by
    revert h
    cases g S a b with
    | none => exact id
    | some d =>
      cases d with
      | bl b =>
        intro h
        cases b with
        | false => simpa [blD] using h
        | true =>
          simp only [Option.bind, blD, R.of, Ens_ok, Ens_bind] at h ⊢
          first
            | refine ⟨fun _ => ?_, fun z => by cases z⟩
              refine h.mono fun c S h => ?_
              revert h
              cases g' S _ c with
              | none => exact id
              | some d =>
                cases d with
                | bl b => intro h; cases b <;> simpa [blD] using h
                | _ => exact id
            | refine (h.1 trivial).mono fun c S h => ?_
              revert h
              cases g' S _ c with
              | none => exact id
              | some d =>
                cases d with
                | bl b => intro h; cases b <;> simpa [blD] using h
                | _ => exact id
      | _ => exact id
@[simp] theorem sort2_lst {i j : Int} : sort2D S [.lst [.int i, .int j]] = some (.lst [.int (if j < i then j else i), .int (if j < i then i else j)]) := rfl
end
/-! ### equality of data without truth values -/
mutual
def D.pure : D → Bool
  | .non => true
  | .int _ => true
  | .str _ => true
  | .tup l => D.pures l
  | _ => false
def D.pures : List D → Bool
  | [] => true
  | d :: l => D.pure d && D.pures l
end
mutual
theorem eqv_pure : ∀ d e : D, d.pure = true → e.pure = true → (PyData.eqv d.py e.py = true ↔ d = e)
  | .non, e, _, h => by cases e <;> simp_all [D.pure, D.py, PyData.eqv]
  | .int _, e, _, h => by cases e <;> simp_all [D.pure, D.py, PyData.eqv]
  | .str _, e, _, h => by cases e <;> simp_all [D.pure, D.py, PyData.eqv]
  | .bl _, e, h, _ => by simp [D.pure] at h
  | .lst _, e, h, _ => by simp [D.pure] at h
  | .wls _, e, h, _ => by simp [D.pure] at h
  | .loc _, e, h, _ => by simp [D.pure] at h
  | .gl _, e, h, _ => by simp [D.pure] at h
  | .ty _, e, h, _ => by simp [D.pure] at h
  | .tup l, .tup m, h1, h2 => by
    have := eqvs_pure l m (by simpa [D.pure] using h1) (by simpa [D.pure] using h2)
    simpa [D.py, PyData.eqv] using this
  | .tup l, .non, h1, h2 => by simp [D.py, PyData.eqv]
  | .tup l, .int _, h1, h2 => by simp [D.py, PyData.eqv]
  | .tup l, .str _, h1, h2 => by simp [D.py, PyData.eqv]
  | .tup l, .bl _, h1, h2 => by simp [D.pure] at h2
  | .tup l, .lst _, h1, h2 => by simp [D.pure] at h2
  | .tup l, .wls _, h1, h2 => by simp [D.pure] at h2
  | .tup l, .loc _, h1, h2 => by simp [D.pure] at h2
  | .tup l, .gl _, h1, h2 => by simp [D.pure] at h2
  | .tup l, .ty _, h1, h2 => by simp [D.pure] at h2
theorem eqvs_pure : ∀ l m : List D, D.pures l = true → D.pures m = true → (PyData.eqvAll (D.pys l) (D.pys m) = true ↔ l = m)
  | [], [], _, _ => by simp [D.pys, PyData.eqvAll]
  | [], _ :: _, _, _ => by simp [D.pys, PyData.eqvAll]
  | _ :: _, [], _, _ => by simp [D.pys, PyData.eqvAll]
  | d :: l, e :: m, h1, h2 => by
    have h1' : d.pure = true ∧ D.pures l = true := by simpa [D.pures] using h1
    have h2' : e.pure = true ∧ D.pures m = true := by simpa [D.pures] using h2
    have a := eqv_pure d e h1'.1 h2'.1
    have b := eqvs_pure l m h1'.2 h2'.2
    simp [D.pys, PyData.eqvAll, a, b]
end
/-- small enough to be compared -/
def D.sh (n : Nat) (d : D) : Prop := d.py.canLay0 = true ∧ d.py.depth ≤ n
theorem D.sh.ok {d : D} {n : Nat} (h : d.sh n) (hn : n ≤ 64) : SeqAt.shaped d.py = true := by
  simp [SeqAt.shaped, h.1, Nat.le_trans h.2 hn]
theorem D.sh.up {d : D} {n m : Nat} (h : d.sh n) (hn : n ≤ m) : d.sh m := ⟨h.1, Nat.le_trans h.2 hn⟩
theorem shs_ok {l : List D} {n : Nat} (h : ∀ d ∈ l, d.sh n) : PyData.canLayAll0 (D.pys l) = true ∧ PyData.depthAll (D.pys l) ≤ n := by
  induction l with
  | nil => exact ⟨rfl, Nat.zero_le _⟩
  | cons a l ih =>
    obtain ⟨h1, h2⟩ := ih fun d hd => h d (List.mem_cons_of_mem _ hd)
    obtain ⟨h3, h4⟩ := h a List.mem_cons_self
    refine ⟨by simp [D.pys, PyData.canLayAll0, h1, h3], ?_⟩
    show max a.py.depth (PyData.depthAll (D.pys l)) ≤ n
    exact Nat.max_le.mpr ⟨h4, h2⟩
theorem D.sh.tup {l : List D} {n : Nat} (h : ∀ d ∈ l, d.sh n) : (D.tup l).sh (n + 1) := by
  obtain ⟨h1, h2⟩ := shs_ok h
  exact ⟨by simp [D.py, PyData.canLay0, h1], by simp [D.py, PyData.depth, h2]⟩
theorem D.sh.lst {l : List D} {n : Nat} (h : ∀ d ∈ l, d.sh n) : (D.lst l).sh (n + 1) := by
  obtain ⟨h1, h2⟩ := shs_ok h
  exact ⟨by simp [D.py, PyData.canLay0, h1], by simp [D.py, PyData.depth, h2]⟩
theorem sh_int {i : Int} {n : Nat} : (D.int i).sh n := ⟨rfl, by simp [D.py, PyData.depth]⟩
theorem sh_non {n : Nat} : (D.non).sh n := ⟨rfl, by simp [D.py, PyData.depth]⟩
theorem sh_bl {b : Bool} {n : Nat} : (D.bl b).sh n := ⟨rfl, by simp [D.py, PyData.depth]⟩
theorem sh_str {x : Str} {n : Nat} (h : SeqAt.shaped (.str x) = true) : (D.str x).sh n := ⟨SeqAt.canLay_of_shaped h, by simp [D.py, PyData.depth]⟩
theorem eqD_nil {S : Sto} {a : D} {l : List D} (e : der S a = .lst l) (h : ∀ d ∈ l, d.sh 60) : eqD S a (.lst []) = some (.bl (decide (l = []))) := by
  have h1 : SeqAt.shaped (D.lst l).py = true := (D.sh.lst h).ok (by decide)
  have h2 : SeqAt.shaped (D.lst []).py = true := (D.sh.lst (n := 0) (fun d hd => by cases hd)).ok (by decide)
  unfold eqD
  rw [e, show der S (.lst []) = .lst [] from rfl, if_pos ⟨h1, h2⟩]
  cases l <;> simp [D.py, D.pys, PyData.eqv, PyData.eqvAll]
theorem neD_nil' {S : Sto} {a : D} {l : List D} (e : der S a = .lst l) (h : ∀ d ∈ l, d.sh 60) : neD S a (.lst []) = some (.bl (decide (l ≠ []))) := by
  have h1 : SeqAt.shaped (D.lst l).py = true := (D.sh.lst h).ok (by decide)
  have h2 : SeqAt.shaped (D.lst []).py = true := (D.sh.lst (n := 0) (fun d hd => by cases hd)).ok (by decide)
  unfold neD
  rw [e, show der S (.lst []) = .lst [] from rfl, if_pos ⟨h1, h2⟩]
  cases l <;> simp [D.py, D.pys, PyData.eqv, PyData.eqvAll]
theorem neD_nilT {S : Sto} {l : List D} (h : ∀ d ∈ l, d.sh 60) : neD S (.tup l) (.tup []) = some (.bl (decide (l ≠ []))) := by
  have h1 : SeqAt.shaped (D.tup l).py = true := (D.sh.tup h).ok (by decide)
  have h2 : SeqAt.shaped (D.tup []).py = true := (D.sh.tup (n := 0) (fun d hd => by cases hd)).ok (by decide)
  unfold neD
  rw [show der S (.tup l) = .tup l from rfl, show der S (.tup []) = .tup [] from rfl, if_pos ⟨h1, h2⟩]
  cases l <;> simp [D.py, D.pys, PyData.eqv, PyData.eqvAll]
open Classical in
theorem eqD_pure {S : Sto} {a b : D} (ha : der S a = a) (hb : der S b = b) (sa : a.sh 60) (sb : b.sh 60) (pa : a.pure = true) (pb : b.pure = true) : eqD S a b = some (.bl (decide (a = b))) := by
  unfold eqD
  rw [ha, hb, if_pos ⟨sa.ok (by decide), sb.ok (by decide)⟩]
  have := eqv_pure a b pa pb
  by_cases e : a = b
  · rw [this.mpr e, decide_eq_true e]
  · have : PyData.eqv a.py b.py = false := by
      cases h : PyData.eqv a.py b.py
      · rfl
      · exact absurd (this.mp h) e
    simp [this, e]
/-- l.index(x) -/
theorem idxD_ok {S : Sto} {l : List D} {d : D} {i : Nat} (hl : ∀ d ∈ l, d.sh 50) (pl : ∀ d ∈ l, d.pure = true) (hd : der S d = d) (hi : l[i]? = some d) (hn : l.Nodup) : idxD S (.lst l) [d] = some (.int i, S) := by
  have hm : d ∈ l := List.mem_of_getElem? hi
  have h1 : SeqAt.shaped (D.lst l).py = true := (D.sh.lst hl).ok (by decide)
  have h2 : SeqAt.shaped d.py = true := (hl d hm).ok (by decide)
  have hlt : i < l.length := (List.getElem?_eq_some_iff.mp hi).1
  have hil : l[i] = d := (List.getElem?_eq_some_iff.mp hi).2
  have key : ∀ m : List D, D.pys m = m.map D.py := fun m => by
    induction m with
    | nil => rfl
    | cons a m ih => simp [D.pys, ih]
  have hf : (D.pys l).findIdx? (fun z => PyData.eqv z d.py) = some i := by
    rw [key, List.findIdx?_map]
    rw [List.findIdx?_eq_some_iff_getElem]
    refine ⟨hlt, ?_, fun j hj => ?_⟩
    · simp only [Function.comp]
      rw [hil]
      exact (eqv_pure d d (pl d hm) (pl d hm)).mpr rfl
    · simp only [Function.comp]
      intro z
      have hjl : j < l.length := by omega
      have := (eqv_pure l[j] d (pl _ (List.getElem_mem _)) (pl d hm)).mp z
      rw [← hil] at this
      exact List.pairwise_iff_getElem.mp hn j i hjl hlt hj this
  simp only [idxD, lstD_lst, hd]
  have h3 : SeqAt.shaped (.list (D.pys l)) = true := h1
  rw [if_pos ⟨h2, h3⟩, hf]
  rfl
end Mi

namespace Mi
open PySem PySem.Spec PyProof.Rows L2
/-! ### the readings of Mi17 .. Mi20 -/
section
variable {env : En} {S : Sto} {Pd : D → Sto → Prop} {n : AM} {m : TM} {l : List D}
@[simp] theorem eq0D_lst : eq0D S (.lst l) (.lst []) = some (.bl (decide (l = []))) := by
  cases l <;> simp [eq0D, emptyB, der]
@[simp] theorem ne0D_lst : ne0D S (.lst l) (.lst []) = some (.bl (decide (l ≠ []))) := by
  cases l <;> simp [ne0D, emptyB, der]
@[simp] theorem eq0D_tup : eq0D S (.tup l) (.tup []) = some (.bl (decide (l = []))) := by
  cases l <;> simp [eq0D, emptyB, der]
@[simp] theorem ne0D_tup : ne0D S (.tup l) (.tup []) = some (.bl (decide (l ≠ []))) := by
  cases l <;> simp [ne0D, emptyB, der]
theorem ne0D_loc {k : Nat} (h : S[k]? = some (.lst l)) : ne0D S (.loc k) (.lst []) = some (.bl (decide (l ≠ []))) := by
  cases l <;> simp [ne0D, emptyB, der, h]
theorem eq0D_loc {k : Nat} (h : S[k]? = some (.lst l)) : eq0D S (.loc k) (.lst []) = some (.bl (decide (l = []))) := by
  cases l <;> simp [eq0D, emptyB, der, h]
@[simp] theorem dk_ne0 {c : List Int} {m n : Int} {T : Sto} : ne0D (deckS c m n T) (.loc 0) (.lst []) = some (.bl (decide (c ≠ []))) := by
  rw [ne0D_loc (l := c.map D.int) (by rfl)]
  cases c <;> simp
@[simp] theorem mDic0_ok : mDic0 env S = .ok (.dic [] []) S := rfl
def dicR (ps : List (D × D)) (S1 : Sto) : R D := match kvsD ps with
  | some kvs => if kvs.length ≤ 15 then .ok (dicD kvs) S1 else .bad
  | none => .bad
@[simp] theorem Ens_mDic {n : PM} : Ens (mDic n env S) Pd ↔ Ens (n env S) fun ps S1 => Ens (dicR ps S1) Pd := by
  show Ens ((n env S).bind dicR) Pd ↔ _
  simp
@[simp] theorem dicR_one {x : Str} {d : D} : dicR [(.str x, d)] S = .ok (.dic [.inr x] [d]) S := by
  simp [dicR, kvsD, keyD, dicD, mergeD, putD]
@[simp] theorem Ens_mRevA : Ens (mRevA m env S) Pd ↔ Ens (m env S) fun d S1 => Ens (R.of (revA S1 d) S1) Pd := by unfold mRevA; simp
@[simp] theorem revA_tup : revA S (.tup l) = some (.tup l.reverse) := rfl
@[simp] theorem revA_lst : revA S (.lst l) = some (.lst l.reverse) := rfl
@[simp] theorem Ens_mSlA {lo hi : En → Sto → R (Option Int)} : Ens (mSlA m lo hi env S) Pd ↔ Ens (m env S) fun a S1 => Ens (lo env S1) fun l S2 => Ens (hi env S2) fun u S3 => Ens (R.of (slA S3 a l u) S3) Pd := by unfold mSlA; simp
@[simp] theorem slA_tup {lo hi : Option Int} : slA S (.tup l) lo hi = some (.tup (cutD l lo hi)) := rfl
@[simp] theorem slA_lst {lo hi : Option Int} : slA S (.lst l) lo hi = some (.lst (cutD l lo hi)) := rfl
@[simp] theorem Ens_mLstRg : Ens (mLstRg m env S) Pd ↔ Ens (m env S) fun d S1 => Ens (rngR d S1) Pd := by
  show Ens ((m env S).bind rngR) Pd ↔ _
  simp
theorem rngR_ok {j : Int} (h0 : 0 ≤ j) (h1 : j ≤ 16777216) : rngR (.int j) S = .ok (.lst (rangeD 0 j.toNat)) S := by
  simp [rngR, h0, h1]
theorem strD_ok {i : Int} (h : i.natAbs.log2 < 1920) : strD S [.int i] = some (.str (toString i)) := by
  simp [strD, h]
@[simp] theorem listD_tup : listD S [.tup l] = some (.lst l) := rfl
@[simp] theorem listD_lst : listD S [.lst l] = some (.lst l) := rfl
end
end Mi

namespace Mi
open PySem PySem.Spec PyProof.Rows L2
/-! ### odd values -/
mutual
def od : D → Bool
  | .non => true
  | .bl _ => true
  | .int _ => true
  | .str x => SeqAt.shaped (.str x)
  | .tup l => ods l && decide (l.length ≤ 1000)
  | .lst l => ods l && decide (l.length ≤ 1000)
  | .dic _ _ => true
  | _ => false
def ods : List D → Bool
  | [] => true
  | d :: l => od d && ods l
end
theorem ods_iff {l : List D} : ods l = true ↔ ∀ d ∈ l, od d = true := by
  induction l with
  | nil => simp [ods]
  | cons a l ih => simp [ods, ih]
theorem od_tup {l : List D} : od (.tup l) = true ↔ (∀ d ∈ l, od d = true) ∧ l.length ≤ 1000 := by simp [od, ods_iff]
theorem od_lst {l : List D} : od (.lst l) = true ↔ (∀ d ∈ l, od d = true) ∧ l.length ≤ 1000 := by simp [od, ods_iff]
@[simp] theorem od_non : od .non = true := rfl
@[simp] theorem od_bl {b : Bool} : od (.bl b) = true := rfl
@[simp] theorem od_int {i : Int} : od (.int i) = true := rfl
@[simp] theorem od_dic {k : List Key} {l : List D} : od (.dic k l) = true := rfl
/-- what odd values are made of -/
def innd : Nat → D → Bool
  | 0, _ => false
  | n + 1, .tup l => l.all (innd n) && decide (l.length ≤ 100)
  | _ + 1, .int i => decide (i.natAbs < 2 ^ 1000)
  | _ + 1, .str x => SeqAt.shaped (.str x) && decide (x.length ≤ 100)
  | _ + 1, _ => false
theorem innd_od : ∀ (n : Nat) (d : D), innd n d = true → od d = true
  | 0, _, h => by cases h
  | n + 1, .tup l, h => by
    have h' : (∀ x ∈ l, innd n x = true) ∧ l.length ≤ 100 := by simpa [innd] using h
    exact od_tup.mpr ⟨fun d hd => innd_od n d (h'.1 d hd), by omega⟩
  | n + 1, .int i, h => rfl
  | n + 1, .str x, h => by
    have h' : SeqAt.shaped (.str x) = true ∧ x.length ≤ 100 := by simpa [innd] using h
    exact h'.1
  | n + 1, .non, h => by cases h
  | n + 1, .bl _, h => by cases h
  | n + 1, .lst _, h => by cases h
  | n + 1, .wls _, h => by cases h
  | n + 1, .loc _, h => by cases h
  | n + 1, .gl _, h => by cases h
  | n + 1, .ty _, h => by cases h
  | n + 1, .dic _ _, h => by cases h
/-! texts -/
theorem sh_strOk {x : Str} : SeqAt.shaped (.str x) = x.cps.all (· < 0x110000) := by
  simp [SeqAt.shaped, PyData.canLay0, PyData.depth, PyData.strOk]
theorem sh_ofString (s : String) : SeqAt.shaped (.str (PySem.Str.ofString s)) = true := by
  rw [sh_strOk, PySem.Str.ofString_eq_toList]
  simp
  intro c _
  have := c.valid
  unfold Char.toNat
  rcases this with h | h
  · exact Nat.lt_trans h (by decide)
  · exact h.2
theorem sh_append {x y : Str} (h1 : SeqAt.shaped (.str x) = true) (h2 : SeqAt.shaped (.str y) = true) : SeqAt.shaped (.str (x ++ y)) = true := by
  rw [sh_strOk] at *
  show (x.cps ++ y.cps).all _ = true
  rw [Array.all_append, h1, h2]
  rfl
theorem sh_cut {x : Str} {lo hi : Option Int} (h : SeqAt.shaped (.str x) = true) : SeqAt.shaped (.str (cutS x lo hi)) = true := by
  rw [sh_strOk] at *
  unfold cutS
  simp at h ⊢
  intro c hc
  have := List.mem_of_mem_drop (List.mem_of_mem_take hc)
  obtain ⟨i, hi, e⟩ := List.getElem_of_mem this
  have := h i (by simpa using hi)
  simp at e
  omega
theorem sh_toString (i : Int) : SeqAt.shaped (.str (toString i : String)) = true := sh_ofString _
def tn : D → String
  | .non => "NoneType"
  | .bl _ => "bool"
  | .int _ => "int"
  | .str _ => "str"
  | .tup _ => "tuple"
  | .lst _ => "list"
  | .dic _ _ => "dict"
  | _ => ""
theorem od_tyn {S : Sto} {d : D} (h : od d = true) : d.tyn S = some (tn d) := by
  cases d <;> first | rfl | cases h
theorem od_isi {S : Sto} {d : D} {b : String} (h : od d = true) (hb : askTys.contains b = true) : isiD S [d, .ty b] = some (.bl (isiB (tn d) b)) := by
  simp [isiD, od_tyn h]
  simpa using hb
theorem od_isi2 {S : Sto} {d : D} {b c : String} (h : od d = true) (hb : askTys.contains b = true) (hc : askTys.contains c = true) : isiD S [d, .tup [.ty b, .ty c]] = some (.bl (isiB (tn d) b || isiB (tn d) c)) := by
  have hb' : b ∈ askTys := by simpa using hb
  have hc' : c ∈ askTys := by simpa using hc
  simp [isiD, hb', hc', od_tyn h]
def isI : D → Bool
  | .int _ => true
  | _ => false
def btw (lo hi : Int) : D → Bool
  | .int x => decide (lo ≤ x ∧ x ≤ hi)
  | _ => false
def frm (lo : Int) : D → Bool
  | .int x => decide (lo ≤ x)
  | _ => false
end Mi

namespace Mi
open PySem PySem.Spec PyProof.Rows L2
/-! ### the readings of Mi23 .. Mi25 -/
section
variable {env : En} {S : Sto} {Pd : D → Sto → Prop} {n : AM} {m : TM} {l : List D}
@[simp] theorem Ens_mU : Ens (mU m env S) Pd ↔ Ens (m env S) fun d S1 => Pd d.un S1 := by unfold mU; simp
@[simp] theorem un_ftp : (D.ftp l).un = .tup l := rfl
@[simp] theorem un_tup : (D.tup l).un = .tup l := rfl
@[simp] theorem un_lst : (D.lst l).un = .lst l := rfl
@[simp] theorem Ens_mLstZip : Ens (mLstZip n env S) Pd ↔ Ens (n env S) fun ds S1 => Ens (lstZipR ds S1) Pd := by
  show Ens ((n env S).bind lstZipR) Pd ↔ _
  simp
@[simp] theorem lstZipR_tup {k : List D} : lstZipR [.tup l, .tup k] S = .ok (.lst (zipD l k)) S := rfl
@[simp] theorem Ens_mIdxT : Ens (mIdxT m n env S) Pd ↔ Ens (m env S) fun o S1 => o.isF = true ∧ Ens (n env S1) fun ds S2 => Ens (R.of (idxTD o ds) S2) Pd := by
  unfold mIdxT
  simp only [Ens_bind]
  constructor
  · intro h
    refine h.mono fun a S h => ?_
    by_cases q : a.isF = true
    · rw [if_pos q] at h
      simp only [Ens_bind] at h
      refine ⟨q, h.mono fun b S h => ?_⟩
      revert h
      cases idxTD a b <;> exact id
    · rw [if_neg q] at h; exact h.elim
  · intro h
    refine h.mono fun a S h => ?_
    rw [if_pos h.1]
    simp only [Ens_bind]
    refine h.2.mono fun b S h => ?_
    revert h
    cases idxTD a b <;> exact id
@[simp] theorem isF_ftp : (D.ftp l).isF = true := rfl
theorem pys_map : ∀ l : List D, D.pys l = l.map D.py
  | [] => rfl
  | a :: l => by simp [D.pys, pys_map l]
/-- in a tuple of plain data -/
theorem inTB_ok' {l : List D} {d : D} (hl : ∀ d ∈ l, d.sh 50) (pl : ∀ d ∈ l, d.pure = true) (sd : d.sh 50) (pd : d.pure = true) [Decidable (d ∈ l)] : inTB d (.tup l) = some (decide (d ∈ l)) := by
  have h1 : SeqAt.shaped (D.tup l).py = true := (D.sh.tup hl).ok (by decide)
  have h2 : SeqAt.shaped d.py = true := sd.ok (by decide)
  unfold inTB
  simp only
  rw [if_pos ⟨h2, h1⟩, pys_map, List.any_map]
  congr 1
  rw [Bool.eq_iff_iff, List.any_eq_true, decide_eq_true_iff]
  constructor
  · rintro ⟨z, hz, e⟩
    have := (eqv_pure z d (pl z hz) pd).mp e
    rw [← this]; exact hz
  · intro h
    exact ⟨d, h, (eqv_pure d d pd pd).mpr rfl⟩
theorem idxTD_ok {l : List D} {d : D} {i : Nat} (hl : ∀ d ∈ l, d.sh 50) (pl : ∀ d ∈ l, d.pure = true) (hi : l[i]? = some d) (hn : l.Nodup) : idxTD (.ftp l) [d] = some (.int (i : Nat)) := by
  have hm : d ∈ l := List.mem_of_getElem? hi
  have h1 : SeqAt.shaped (D.tup l).py = true := (D.sh.tup hl).ok (by decide)
  have h2 : SeqAt.shaped d.py = true := (hl d hm).ok (by decide)
  have hlt : i < l.length := (List.getElem?_eq_some_iff.mp hi).1
  have hil : l[i] = d := (List.getElem?_eq_some_iff.mp hi).2
  have hf : (D.pys l).findIdx? (fun z => PyData.eqv z d.py) = some i := by
    rw [pys_map, List.findIdx?_map]
    rw [List.findIdx?_eq_some_iff_getElem]
    refine ⟨hlt, ?_, fun j hj => ?_⟩
    · simp only [Function.comp]
      rw [hil]
      exact (eqv_pure d d (pl d hm) (pl d hm)).mpr rfl
    · simp only [Function.comp]
      intro z
      have hjl : j < l.length := by omega
      have := (eqv_pure l[j] d (pl _ (List.getElem_mem _)) (pl d hm)).mp z
      rw [← hil] at this
      exact List.pairwise_iff_getElem.mp hn j i hjl hlt hj this
  unfold idxTD
  simp only
  rw [if_pos ⟨h2, h1⟩, hf]
  rfl
theorem tupleFD_ok (h : ∀ d ∈ l, d.isTup = true) : tupleFD S [.lst l] = some (.ftp l) := by
  have : l.all D.isTup = true := List.all_eq_true.mpr h
  simp [tupleFD, this]
end
/-! sorted rows of whole numbers -/
namespace I3
def keyI (l : List Int) : SK := l.map Sum.inl
theorem keyDs_int : ∀ (i : Nat) (l : List Int), keyDs i (l.map D.int) = some (keyI l)
  | _, [] => rfl
  | i, a :: l => by simp [keyDs, shp, keyDs_int (i + 1) l, keyI]
theorem tkD_int (a : Int) (l : List Int) : tkD (.tup ((a :: l).map D.int)) = some (keyI (a :: l)) := keyDs_int 0 (a :: l)
theorem sortTD_ok {S : Sto} {l : List D} (h : ∀ d ∈ l, (tkD d).isSome = true) : sortTD S [.lst l] = some (.lst (srtD l)) := by
  have : l.all (fun d => (tkD d).isSome) = true := List.all_eq_true.mpr h
  simp [sortTD, lstD, der, this]
end I3
end Mi

namespace Mi
open PySem PySem.Spec PyProof.Rows L2
/-! ### comprehensions that leave the store alone -/
section
variable {env : En} {S : Sto} {Pl : List D → Sto → Prop} {g : GM} {tt : BM} {te : TM} {gd : Sto → Prop} {α β : Type}
theorem lc_map (l : List α) (e f : α → D) (c : α → Bool) (hl : l.length < 16777216) (hg : gd S)
    (h : ∀ a ∈ l, Ens (g (e a) env S) fun env1 S1 => Ens (tt env1 S1) fun b S2 => b = c a ∧ S2 = S ∧ (b = true → Ens (te env1 S2) fun y S3 => y = f a ∧ S3 = S))
    (hp : Pl ((l.filter c).map f) S) : Ens (lcD g tt te gd env (l.map e) S []) Pl := by
  have gen : ∀ (m : List α) (acc : List D), acc.length + m.length < 16777216 → (∀ a ∈ m, a ∈ l) → Pl (acc ++ (m.filter c).map f) S → Ens (lcD g tt te gd env (m.map e) S acc) Pl := by
    intro m
    induction m with
    | nil =>
      intro acc _ _ hp
      refine Ens_lc_nil.mpr ⟨hg, ?_⟩
      simpa using hp
    | cons a m ih =>
      intro acc hlen hm hp
      rw [List.map_cons]
      refine Ens_lc_cons.mpr ⟨hg, (h a (hm a List.mem_cons_self)).mono fun env1 S1 h1 => h1.mono fun b S2 h2 => ?_⟩
      obtain ⟨hb, hS, h3⟩ := h2
      subst hb hS
      simp at hlen
      refine ⟨fun hc => (h3 hc).mono fun y S3 h4 => ?_, fun hc => ?_⟩
      · obtain ⟨rfl, rfl⟩ := h4
        refine ⟨by omega, ih _ (by simp; omega) (fun a ha => hm a (List.mem_cons_of_mem _ ha)) ?_⟩
        rw [List.filter_cons, if_pos hc] at hp
        simpa using hp
      · refine ih _ (by omega) (fun a ha => hm a (List.mem_cons_of_mem _ ha)) ?_
        rw [List.filter_cons, hc] at hp
        simpa using hp
  exact gen l [] (by simpa using hl) (fun a h => h) (by simpa using hp)
/-- without a test -/
theorem lc_all (l : List α) (e f : α → D) (hl : l.length < 16777216) (hg : gd S)
    (h : ∀ a ∈ l, Ens (g (e a) env S) fun env1 S1 => S1 = S ∧ Ens (te env1 S1) fun y S3 => y = f a ∧ S3 = S)
    (hp : Pl (l.map f) S) : Ens (lcD g bYes te gd env (l.map e) S []) Pl :=
  lc_map l e f (fun _ => true) hl hg (fun a ha => (h a ha).mono fun env1 S1 h1 => by
    obtain ⟨h0, h1⟩ := h1
    simp only [Ens_bYes]
    exact ⟨trivial, h0, fun _ => h1⟩) (by rw [List.filter_eq_self.mpr (by intros; rfl)]; exact hp)
end
section
variable {S : Sto} {α β : Type}
theorem zipD_map {f : α → D} {g : β → D} {l : List α} {m : List β} : zipD (l.map f) (m.map g) = (l.zip m).map fun p => .tup [f p.1, g p.2] := by
  unfold zipD
  rw [List.zip_map, List.map_map]
  rfl
theorem enumD_map {f : α → D} {l : List α} : enumD (l.map f) = l.zipIdx.map fun p => .tup [.int (p.2 : Nat), f p.1] := by
  apply List.ext_getElem?
  intro i
  cases h : (enumD (l.map f))[i]? with
  | none =>
    have : l.length ≤ i := by
      have := List.getElem?_eq_none_iff.mp h
      simpa using this
    symm
    rw [List.getElem?_map, List.getElem?_zipIdx, List.getElem?_eq_none this]
    rfl
  | some d =>
    obtain ⟨x, hx, e⟩ := enum_get h
    rw [List.getElem?_map] at hx
    cases ha : l[i]? with
    | none => rw [ha] at hx; cases hx
    | some a =>
      rw [ha] at hx
      cases hx
      rw [List.getElem?_map, List.getElem?_zipIdx, ha, e]
      simp
theorem bls_map {c : α → Bool} : ∀ l : List α, blsD (l.map fun a => .bl (c a)) = some (l.map c)
  | [] => rfl
  | a :: l => by simp [blsD, bls_map l]
@[simp] theorem allD_map {c : α → Bool} {l : List α} : allD S [.lst (l.map fun a => .bl (c a))] = some (.bl (l.all c)) := by
  simp [allD, bls_map, List.all_map]
theorem cut_tail {l : List D} : Mi.cutD l (some 1) none = l.tail := by
  unfold Mi.cutD
  cases l with
  | nil => simp [HT.sIx]
  | cons a l =>
    have e1 : HT.sIx (a :: l).length 0 (some 1) = 1 := by
      simp [HT.sIx]
      try omega
    have e2 : HT.sIx (a :: l).length (a :: l).length none = (a :: l).length := by simp [HT.sIx]
    rw [e1, e2]
    simp
theorem cut_take {l : List D} (n : Nat) : Mi.cutD l none (some (n : Int)) = l.take n := by
  unfold Mi.cutD
  rw [HT.sIx_nat]
  have e1 : HT.sIx l.length 0 none = 0 := rfl
  rw [e1, Nat.sub_zero, List.drop_zero]
  apply List.ext_getElem?
  intro i
  rw [List.getElem?_take, List.getElem?_take]
  by_cases h : i < l.length
  · by_cases k : i < n
    · rw [if_pos (by omega), if_pos k]
    · rw [if_neg (by omega), if_neg k]
  · have : l[i]? = none := List.getElem?_eq_none (by omega)
    rw [this]
    split <;> split <;> rfl
theorem cut_drop {l : List D} (n : Nat) : Mi.cutD l (some (n : Int)) none = l.drop n := by
  unfold Mi.cutD
  rw [HT.sIx_nat]
  have e1 : HT.sIx l.length l.length none = l.length := rfl
  rw [e1]
  by_cases h : n ≤ l.length
  · rw [Nat.min_eq_left h]
    rw [List.take_of_length_le]
    simp
  · rw [Nat.min_eq_right (by omega), List.drop_length, List.drop_of_length_le (by omega)]
    simp
theorem cut_last {l : List D} {d : D} : Mi.cutD (l ++ [d]) (some (-1)) none = [d] := by
  unfold Mi.cutD
  have e1 : HT.sIx (l ++ [d]).length 0 (some (-1)) = l.length := by
    simp [HT.sIx]
    omega
  have e2 : HT.sIx (l ++ [d]).length (l ++ [d]).length none = l.length + 1 := by simp [HT.sIx]
  rw [e1, e2]
  simp
theorem atI_end {l : List D} {d : D} : L2.atI (l ++ [d]) (-1) = some d := L2.atI_last l d
theorem atI_at {l : List D} {i : Nat} : L2.atI l (i : Int) = l[i]? := by
  unfold L2.atI L2.ixN
  by_cases h : i < l.length
  · simp [h]
  · simp [h, List.getElem?_eq_none (Nat.le_of_not_lt h)]
/-! a list at the end of the store -/
variable {l m : List D} {d : D}
theorem end_get : (S ++ [O.lst l])[S.length]? = some (.lst l) := by simp
theorem end_set {o o' : O} : (S ++ [o]).set S.length o' = S ++ [o'] := by simp
@[simp] theorem end_take {o : O} : (S ++ [o]).take S.length = S := by simp
theorem end_isT : isT (S ++ [.lst l]) "list" (.loc S.length) = true := by
  unfold isT
  simp only
  rw [end_get]
  rfl
theorem end_app (h : l.length < 16777216) : appD (S ++ [.lst l]) (.loc S.length) [d] = some (.non, S ++ [.lst (l ++ [d])]) := by
  unfold appD
  simp only
  rw [end_get]
  simp only
  rw [if_pos h, end_set]
theorem end_ext (h : l.length + m.length ≤ 16777216) : extD (S ++ [.lst l]) (.loc S.length) [.lst m] = some (.non, S ++ [.lst (l ++ m)]) := by
  unfold extD
  simp only
  rw [end_get]
  simp only
  rw [if_pos h, end_set]
theorem end_ins {k : Nat} (h : l.length < 16777216) (hk : k ≤ l.length) : insD (S ++ [.lst l]) (.loc S.length) [.int (k : Nat), d] = some (.non, S ++ [.lst (l.take k ++ d :: l.drop k)]) := by
  unfold insD
  simp only
  rw [end_get]
  simp only
  rw [if_pos ⟨h, by omega, by omega⟩, end_set]
  simp
theorem end_pop (h : l = m ++ [d]) : popD (S ++ [.lst l]) (.loc S.length) [] = some (d, S ++ [.lst m]) := by
  subst h
  unfold popD
  simp only
  rw [end_get]
  simp
theorem end_pop0 (h : l = d :: m) : popD (S ++ [.lst l]) (.loc S.length) [.int 0] = some (d, S ++ [.lst m]) := by
  subst h
  unfold popD
  simp only
  rw [end_get]
  simp
theorem end_ix {i : Int} : ixD (S ++ [.lst l]) (.loc S.length) (.int i) = L2.atI l i := by
  unfold ixD
  simp only
  rw [end_get]
  rfl
theorem end_ne0 : ne0D (S ++ [.lst l]) (.loc S.length) (.lst []) = some (.bl (decide (l ≠ []))) := ne0D_loc end_get
theorem end_eq0 : eq0D (S ++ [.lst l]) (.loc S.length) (.lst []) = some (.bl (decide (l = []))) := eq0D_loc end_get
theorem end_seq : seqD (S ++ [.lst l]) (.loc S.length) = some l := by simp [seqD, der]
theorem end_lst : lstD (S ++ [.lst l]) (.loc S.length) = some l := by simp [lstD, der]
theorem end_tuple : tupleD (S ++ [.lst l]) [.loc S.length] = some (.tup l) := by simp [tupleD, end_seq]
theorem end_len : lenD (S ++ [.lst l]) [.loc S.length] = some (.int l.length) := by
  simp [lenD, end_seq, der]
theorem end_ok {o : O} : gcOk S (S ++ [o]) := ⟨by simp, fun i hi => .inl (by rw [List.getElem?_append_left hi])⟩
theorem ens_gc' {r : R D} {P : D → Sto → Prop} (h : Ens r fun d S' => gcOk S S' ∧ d.lo S.length ∧ P d (S'.take S.length)) : Ens (gcR S r) P := by
  cases r with
  | ok d S' =>
    obtain ⟨h1, h2, h3⟩ := h
    simp only [gcR]
    rw [if_pos ⟨h1, h2⟩]
    exact h3
  | exc C fs S' => exact h.elim
  | bad => exact h.elim
theorem ens_gcF' {r : R D} {P : D → Sto → Prop} (h : Ens r fun d S' => ∃ (k : Nat) (l : List D), d = .loc k ∧ S'[k]? = some (.lst l) ∧ S.length ≤ k ∧ gcOk S S' ∧ D.los S.length l ∧ P (.lst l) (S'.take S.length)) : Ens (gcF S r) P := by
  cases r with
  | ok d S' =>
    obtain ⟨k, l, hd, h1, h2, h3, h4, h5⟩ := h
    subst hd
    unfold gcF
    simp only [h1]
    rw [if_pos ⟨h2, h3, h4⟩]
    exact h5
  | exc C fs S' => exact h.elim
  | bad => exact h.elim
/-- plain data hold no places -/
theorem lo_pure : ∀ (d : D) (n : Nat), d.pure = true → d.lo n
  | .non, _, _ => trivial
  | .int _, _, _ => trivial
  | .str _, _, _ => trivial
  | .tup l, n, h => los_pure l n (by simpa [D.pure] using h)
  | .bl _, _, h => by simp [D.pure] at h
  | .lst _, _, h => by simp [D.pure] at h
  | .wls _, _, h => by simp [D.pure] at h
  | .loc _, _, h => by simp [D.pure] at h
  | .gl _, _, h => by simp [D.pure] at h
  | .ty _, _, h => by simp [D.pure] at h
  | .dic _ _, _, h => by simp [D.pure] at h
  | .ftp _, _, h => by simp [D.pure] at h
where los_pure : ∀ (l : List D) (n : Nat), D.pures l = true → D.los n l
  | [], _, _ => trivial
  | d :: l, n, h => by
    have h' : d.pure = true ∧ D.pures l = true := by simpa [D.pures] using h
    exact ⟨lo_pure d n h'.1, los_pure l n h'.2⟩
theorem pures_map {f : α → D} (h : ∀ a, (f a).pure = true) : ∀ l : List α, D.pures (l.map f) = true
  | [] => rfl
  | a :: l => by simp [D.pures, h a, pures_map h l]
end
end Mi

namespace Mi
open PySem PySem.Spec PyProof.Rows L2
section
variable {S : Sto} {env : En} {n : AM} {Pi : List D × (Sto → Prop) → Sto → Prop} {ma mb : TM} {P : D → Sto → Prop}
def rng2R (ds : List D) (S1 : Sto) : R (List D × (Sto → Prop)) := match ds with
  | [.int i, .int j] => if -1000000000 ≤ i ∧ i ≤ 1000000000 ∧ -1000000000 ≤ j ∧ j ≤ 1000000000 then .ok (rangeD i (j - i).toNat, fun _ => True) S1 else .bad
  | _ => .bad
@[simp] theorem Ens_iRng2 : Ens (iRng2 n env S) Pi ↔ Ens (n env S) fun l S1 => Ens (rng2R l S1) Pi := by
  show Ens ((n env S).bind rng2R) Pi ↔ _
  simp
@[simp] theorem Ens_rng2R {i j : Int} : Ens (rng2R [.int i, .int j] S) Pi ↔ (-1000000000 ≤ i ∧ i ≤ 1000000000 ∧ -1000000000 ≤ j ∧ j ≤ 1000000000) ∧ Pi (rangeD i (j - i).toNat, fun _ => True) S := by
  unfold rng2R
  by_cases h : -1000000000 ≤ i ∧ i ≤ 1000000000 ∧ -1000000000 ≤ j ∧ j ≤ 1000000000
  · simp [h]
  · simp only [if_neg h]
    constructor
    · exact fun z => z.elim
    · exact fun z => h z.1
def catR (S : Sto) (a b : D) : R D := match catL S a b with
  | some l => R.new (.lst l) S
  | none => .bad
@[simp] theorem Ens_mAddN : Ens (mAddN ma mb env S) P ↔ Ens (ma env S) fun a S1 => Ens (mb env S1) fun b S2 => Ens (catR S2 a b) P := by
  show Ens ((ma env S).bind fun a S1 => (mb env S1).bind fun b S2 => catR S2 a b) P ↔ _
  simp
theorem rng2_get {a : Int} {n i : Nat} {d : D} (h : (rangeD a n)[i]? = some d) : i < n ∧ d = .int (a + (i : Int)) := by
  have hi : i < n := by
    have := (List.getElem?_eq_some_iff.mp h).1
    rwa [rangeD_length] at this
  rw [rangeD_get hi] at h
  cases h
  exact ⟨hi, rfl⟩
end
end Mi

namespace Mi
open PySem PySem.Spec PyProof.Rows L2
section
variable {S T : Sto} {N : Nat}
/-! ### places behind a deck -/
theorem dk_at (h : DkP N T S) {k : Nat} {o : O} (hk : T[k]? = some o) : S[k + 2]? = some o := by
  obtain ⟨c, m, n, e, _⟩ := h
  subst e
  simpa [deckS] using hk
theorem dk_len (h : DkP N T S) : S.length = T.length + 2 := by
  obtain ⟨c, m, n, e, _⟩ := h
  subst e
  simp [deckS]
theorem dk_push (h : DkP N T S) {o : O} : DkP N (T ++ [o]) (S ++ [o]) := by
  obtain ⟨c, m, n, e, h⟩ := h
  subst e
  exact ⟨c, m, n, rfl, h⟩
theorem dk_setT (h : DkP N T S) {k : Nat} {o : O} : DkP N (T.set k o) (S.set (k + 2) o) := by
  obtain ⟨c, m, n, e, h⟩ := h
  subst e
  exact ⟨c, m, n, rfl, h⟩
theorem dk_gc {M : Nat} {E S' : Sto} (h : DkP N T S) (h' : DkP M (T ++ E) S') : gcOk S S' ∧ DkP M T (S'.take S.length) := by
  have los : ∀ (n : Nat) (c : List Int), D.los n (c.map D.int) := fun n c => by
    induction c with
    | nil => trivial
    | cons a c ih => exact ⟨trivial, ih⟩
  have hl := dk_len h
  obtain ⟨c, m, n, e, _⟩ := h
  obtain ⟨c', m', n', e', h'⟩ := h'
  subst e e'
  refine ⟨⟨by simp [deckS], fun i hi => ?_⟩, c', m', n', ?_, h'⟩
  · rcases i with _ | _ | i
    · exact .inr ⟨_, rfl, los _ _⟩
    · exact .inr ⟨_, rfl, by simp [O.lo, kvBelow, D.lo, deckS]⟩
    · refine .inl ?_
      have : i < T.length := by rw [hl] at hi; omega
      simp [deckS, List.getElem?_append_left this]
  · rw [hl]
    simp [deckS]
theorem dk_extT {M : Nat} {X Y : List D} {S : Sto} (h : DkP M (T ++ [.lst X]) S) : DkP M (T ++ [.lst (X ++ Y)]) (S.set (T.length + 2) (.lst (X ++ Y))) := by
  have h7 := dk_setT h (k := T.length) (o := .lst (X ++ Y))
  have : (T ++ [O.lst X]).set T.length (.lst (X ++ Y)) = T ++ [.lst (X ++ Y)] := by
    simp [List.set_append]
  rw [this] at h7
  exact h7
theorem dk_atE {E : Sto} {k : Nat} {o : O} (h : DkP N (T ++ E) S) (hk : E[k]? = some o) : S[T.length + k + 2]? = some o := dk_at h (k := T.length + k) (by
  rw [List.getElem?_append_right (by omega), show T.length + k - T.length = k by omega]; exact hk)
theorem dk_setE {E : Sto} {k : Nat} {o : O} (h : DkP N (T ++ E) S) : DkP N (T ++ E.set k o) (S.set (T.length + k + 2) o) := by
  have := dk_setT h (k := T.length + k) (o := o)
  rw [List.set_append_right _ _ (by omega)] at this
  rw [show T.length + k - T.length = k by omega] at this
  exact this
theorem dk_pushE {E : Sto} {o : O} (h : DkP N (T ++ E) S) : DkP N (T ++ (E ++ [o])) (S ++ [o]) := by
  rw [← List.append_assoc]; exact dk_push h
/-! lists at places -/
theorem lenD_loc {k : Nat} {l : List D} (h : S[k]? = some (.lst l)) : lenD S [.loc k] = some (.int l.length) := by
  simp [lenD, seqD, der, h]
theorem ixD_loc {k : Nat} {l : List D} {i : Int} (h : S[k]? = some (.lst l)) : ixD S (.loc k) (.int i) = L2.atI l i := by
  simp [ixD, der, h]
theorem popI_ok {k : Nat} {l : List D} {v : Nat} {d : D} (h : S[k]? = some (.lst l)) (hv : l[v]? = some d) (hs : v < 1000000) : popD S (.loc k) [.int (v : Int)] = some (d, S.set k (.lst (l.eraseIdx v))) := by
  simp only [popD, h]
  rw [if_pos ⟨by omega, by omega⟩]
  simp [hv]
theorem isT_loc {k : Nat} {l : List D} (h : S[k]? = some (.lst l)) : isT S "list" (.loc k) = true := by
  unfold isT
  simp only [h]
  rfl
theorem app_loc {k : Nat} {l : List D} {d : D} (h : S[k]? = some (.lst l)) (hl : l.length < 16777216) : appD S (.loc k) [d] = some (.non, S.set k (.lst (l ++ [d]))) := by
  unfold appD
  simp only [h, hl, if_true]
theorem seq_loc {k : Nat} {l : List D} (h : S[k]? = some (.lst l)) : seqD S (.loc k) = some l := by simp [seqD, der, h]
theorem tup_loc {k : Nat} {l : List D} (h : S[k]? = some (.lst l)) : tupleD S [.loc k] = some (.tup l) := by simp [tupleD, seq_loc h]
theorem erase_perm {α : Type} : ∀ (l : List α) (i : Nat) (h : i < l.length), (l[i] :: l.eraseIdx i).Perm l
  | a :: l, 0, h => by simp
  | a :: l, i + 1, h => by
    have := erase_perm l i (by simpa using h)
    simp only [List.getElem_cons_succ, List.eraseIdx_cons_succ]
    exact (List.Perm.swap _ _ _).trans (this.cons a)
theorem cut_mem {l : List D} {lo hi : Option Int} {d : D} (h : d ∈ Mi.cutD l lo hi) : d ∈ l := List.mem_of_mem_drop (List.mem_of_mem_take h)
theorem cut_len' {l : List D} {lo hi : Option Int} : (Mi.cutD l lo hi).length ≤ l.length := by
  unfold Mi.cutD
  rw [List.length_take, List.length_drop]
  omega
theorem pures_all {l : List D} (h : ∀ d ∈ l, d.pure = true) : D.pures l = true := by
  induction l with
  | nil => rfl
  | cons a l ih =>
    simp only [D.pures, Bool.and_eq_true]
    exact ⟨h a List.mem_cons_self, ih fun d hd => h d (List.mem_cons_of_mem _ hd)⟩
theorem los_all {n : Nat} {l : List D} (h : ∀ d ∈ l, d.lo n) : D.los n l := by
  induction l with
  | nil => trivial
  | cons a l ih => exact ⟨h a List.mem_cons_self, ih fun d hd => h d (List.mem_cons_of_mem _ hd)⟩
end
/-! ### spots among odd values -/
def spB : D → Bool
  | .tup [.int x, .int y, .int w] => decide (1 ≤ w ∧ g3 x y w = 1)
  | _ => false
theorem spB_iff3 {d : D} : spB d = true ↔ ∃ x y w : Int, d = .tup [.int x, .int y, .int w] ∧ 1 ≤ w ∧ g3 x y w = 1 := by
  constructor
  · intro h
    unfold spB at h
    split at h
    · rename_i x y w
      exact ⟨x, y, w, rfl, of_decide_eq_true h⟩
    · cases h
  · rintro ⟨x, y, w, rfl, h⟩
    exact decide_eq_true h
theorem spB_not {a b c : D} (h : isI a = false ∨ isI b = false ∨ isI c = false) : spB (.tup [a, b, c]) = false := by
  cases hs : spB (.tup [a, b, c]) with
  | false => rfl
  | true =>
    obtain ⟨x, y, w, e, _⟩ := spB_iff3.mp hs
    simp at e
    obtain ⟨rfl, rfl, rfl⟩ := e
    simp [isI] at h
theorem int_of {d : D} (h : isI d = true) : ∃ i, d = .int i := by
  cases d <;> first | exact ⟨_, rfl⟩ | cases h
/-! ### values whose integers are bounded, and that name no place -/
mutual
def ib (B : Nat) : D → Bool
  | .int i => decide (i.natAbs < 2 ^ B)
  | .tup l => ibs B l
  | .lst l => ibs B l
  | .dic _ l => ibs B l
  | .wls l => ibs B l
  | .ftp l => ibs B l
  | .loc _ => false
  | _ => true
def ibs (B : Nat) : List D → Bool
  | [] => true
  | d :: l => ib B d && ibs B l
end
theorem ibs_iff {B : Nat} {l : List D} : ibs B l = true ↔ ∀ d ∈ l, ib B d = true := by
  induction l with
  | nil => simp [ibs]
  | cons a l ih => simp [ibs, ih]
theorem ib_tup {B : Nat} {l : List D} : ib B (.tup l) = true ↔ ∀ d ∈ l, ib B d = true := by simp [ib, ibs_iff]
theorem ib_lst {B : Nat} {l : List D} : ib B (.lst l) = true ↔ ∀ d ∈ l, ib B d = true := by simp [ib, ibs_iff]
mutual
theorem ib_lo {A : Nat} {n : Nat} : ∀ d : D, ib A d = true → d.lo n
  | .int _, _ => trivial
  | .non, _ => trivial
  | .bl _, _ => trivial
  | .str _, _ => trivial
  | .gl _, _ => trivial
  | .ty _, _ => trivial
  | .loc _, h => by cases h
  | .tup l, h => by
    simp only [ib] at h
    exact ibs_lo l h
  | .lst l, h => by
    simp only [ib] at h
    exact ibs_lo l h
  | .wls l, h => by
    simp only [ib] at h
    exact ibs_lo l h
  | .dic _ l, h => by
    simp only [ib] at h
    exact ibs_lo l h
  | .ftp l, h => by
    simp only [ib] at h
    exact ibs_lo l h
theorem ibs_lo {A : Nat} {n : Nat} : ∀ l : List D, ibs A l = true → D.los n l
  | [], _ => trivial
  | d :: l, h => by
    simp only [ibs, Bool.and_eq_true] at h
    exact ⟨ib_lo d h.1, ibs_lo l h.2⟩
end
/-! ### values that can be shown -/
def sw (k m : Nat) (d : D) : Bool := d.rd && d.pd.showable && decide (d.pd.shown.length ≤ k) && decide (d.pd.depth ≤ m)
theorem sw_iff {k m : Nat} {d : D} : sw k m d = true ↔ d.rd = true ∧ d.pd.showable = true ∧ d.pd.shown.length ≤ k ∧ d.pd.depth ≤ m := by
  simp [sw, and_assoc]
theorem sw_up {k m k' m' : Nat} {d : D} (h : sw k m d = true) (hk : k ≤ k') (hm : m ≤ m') : sw k' m' d = true := by
  rw [sw_iff] at *
  exact ⟨h.1, h.2.1, by omega, by omega⟩
theorem rds_all {l : List D} (h : ∀ d ∈ l, d.rd = true) : D.rds l = true := by
  induction l with
  | nil => rfl
  | cons a l ih =>
    simp only [D.rds, Bool.and_eq_true]
    exact ⟨h a List.mem_cons_self, ih fun d hd => h d (List.mem_cons_of_mem _ hd)⟩
theorem shs_all {l : List D} (h : ∀ d ∈ l, d.pd.showable = true) : PyData.showableAll (D.pds l) = true := by
  induction l with
  | nil => rfl
  | cons a l ih =>
    simp only [D.pds, PyData.showableAll, Bool.and_eq_true]
    exact ⟨h a List.mem_cons_self, ih fun d hd => h d (List.mem_cons_of_mem _ hd)⟩
theorem dps_all {l : List D} {m : Nat} (h : ∀ d ∈ l, d.pd.depth ≤ m) : PyData.depthAll (D.pds l) ≤ m := by
  induction l with
  | nil => exact Nat.zero_le _
  | cons a l ih =>
    simp only [D.pds, PyData.depthAll]
    exact Nat.max_le.mpr ⟨h a List.mem_cons_self, ih fun d hd => h d (List.mem_cons_of_mem _ hd)⟩
theorem shown_all {l : List D} {k : Nat} (h : ∀ d ∈ l, d.pd.shown.length ≤ k) : ∀ t ∈ PyData.shownAll (D.pds l), t.length ≤ k := by
  induction l with
  | nil => intro t ht; cases ht
  | cons a l ih =>
    intro t ht
    simp only [D.pds, PyData.shownAll, List.mem_cons] at ht
    rcases ht with rfl | ht
    · exact h a List.mem_cons_self
    · exact ih (fun d hd => h d (List.mem_cons_of_mem _ hd)) t ht
theorem shown_len {l : List D} : (PyData.shownAll (D.pds l)).length = l.length := by
  induction l with
  | nil => rfl
  | cons a l ih => simp only [D.pds, PyData.shownAll, List.length_cons, ih]
theorem join_le {sep : Str} {k : Nat} : ∀ ts : List Str, (∀ t ∈ ts, t.length ≤ k) → (Str.join sep ts).length ≤ (k + sep.length) * ts.length
  | [], _ => Nat.zero_le _
  | [x], h => by
    have := h x List.mem_cons_self
    show x.length ≤ (k + sep.length) * 1
    omega
  | x :: y :: r, h => by
    have h1 := h x List.mem_cons_self
    have h2 := join_le (sep := sep) (y :: r) fun t ht => h t (List.mem_cons_of_mem _ ht)
    show (x ++ sep ++ Str.join sep (y :: r)).length ≤ _
    rw [strLen_append, strLen_append]
    rw [List.length_cons, Nat.mul_succ]
    omega
theorem from_le {k : Nat} : ∀ (ts : List Str) (i : Nat) (acc : Str), (∀ t ∈ ts, t.length ≤ k) → (textFrom i acc ts).length ≤ acc.length + (k + 2) * ts.length
  | [], i, acc, _ => by simp [textFrom]
  | t :: ts, i, acc, h => by
    have h1 := h t List.mem_cons_self
    have h2 := from_le ts (i + 1) (acc ++ (if i > 0 then ", " else "" : String) ++ t) fun t ht => h t (List.mem_cons_of_mem _ ht)
    have h3 : (acc ++ ((if i > 0 then ", " else "" : String) : Str) ++ t).length ≤ acc.length + 2 + t.length := by
      rw [strLen_append, strLen_append]
      have : (((if i > 0 then ", " else "" : String) : Str)).length ≤ 2 := by
        split <;> decide
      omega
    show (textFrom (i + 1) _ ts).length ≤ _
    rw [List.length_cons, Nat.mul_succ]
    omega
theorem sw_tup {l : List D} {k m n : Nat} (h : ∀ d ∈ l, sw k m d = true) (hl : l.length ≤ n) : sw ((k + 2) * n + 3) (m + 1) (.tup l) = true := by
  rw [sw_iff]
  have h' := fun d hd => sw_iff.mp (h d hd)
  refine ⟨rds_all fun d hd => (h' d hd).1, shs_all fun d hd => (h' d hd).2.1, ?_, Nat.succ_le_succ (dps_all fun d hd => (h' d hd).2.2.2)⟩
  have j := join_le (sep := ", ") _ (shown_all fun d hd => (h' d hd).2.2.1)
  rw [shown_len] at j
  have e : ((", " : String) : Str).length = 2 := by decide
  rw [e] at j
  have j2 : (k + 2) * l.length ≤ (k + 2) * n := Nat.mul_le_mul_left _ hl
  show (tupleText (PyData.shownAll (D.pds l))).length ≤ _
  unfold tupleText
  rw [strLen_append, strLen_append]
  have e1 : (("(" : String) : Str).length = 1 := by decide
  have e2 : (((if (PyData.shownAll (D.pds l)).length == 1 then ",)" else ")" : String)) : Str).length ≤ 2 := by split <;> decide
  have e1' : ("(" : Str).length = 1 := e1
  have j' : (Str.join ", " (PyData.shownAll (D.pds l))).length ≤ (k + 2) * l.length := j
  omega
theorem sw_lst {l : List D} {k m n : Nat} (h : ∀ d ∈ l, sw k m d = true) (hl : l.length ≤ n) : sw ((k + 2) * n + 3) (m + 1) (.lst l) = true := by
  rw [sw_iff]
  have h' := fun d hd => sw_iff.mp (h d hd)
  refine ⟨rds_all fun d hd => (h' d hd).1, shs_all fun d hd => (h' d hd).2.1, ?_, Nat.succ_le_succ (dps_all fun d hd => (h' d hd).2.2.2)⟩
  have j := from_le (k := k) _ 0 "[" (shown_all fun d hd => (h' d hd).2.2.1)
  rw [shown_len] at j
  have j2 : (k + 2) * l.length ≤ (k + 2) * n := Nat.mul_le_mul_left _ hl
  show (listText (PyData.shownAll (D.pds l))).length ≤ _
  unfold listText
  rw [strLen_append]
  have e1 : ("[" : Str).length = 1 := by decide
  have e2 : ("]" : Str).length = 1 := by decide
  omega
theorem sw_int {i : Int} {B : Nat} (h0 : 0 < B) (hB : B ≤ 1900) (h : i.natAbs < 2 ^ B) : sw (B + 1) 0 (.int i) = true := by
  rw [sw_iff]
  have hl : i.natAbs.log2 < B := by
    by_cases z : i.natAbs = 0
    · rw [z]; exact h0
    · exact (Nat.log2_lt z).mpr h
  refine ⟨rfl, decide_eq_true (show i.natAbs.log2 < 1920 by omega), ?_, Nat.le_refl _⟩
  have := int_text_length_le h0 hl
  show (PySem.Str.ofString (toString i)).length ≤ _
  rw [PySem.ofString_length]
  exact this
theorem sw_str {x : Str} {n : Nat} (h : SeqAt.shaped (.str x) = true) (hl : x.length ≤ n) : sw (10 * n + 2) 0 (.str x) = true := by
  rw [sw_iff]
  refine ⟨rfl, rfl, ?_, Nat.le_refl _⟩
  have := StrLaws.reprText_len x fun c hc => by
    rw [sh_strOk] at h
    have h2 : c < 0x110000 := by
      have := Array.all_eq_true_iff_forall_mem.mp h c (by simpa using hc)
      simpa using this
    omega
  show (reprText x).length ≤ _
  omega
theorem reprD_sw {S : Sto} {d : D} {k m : Nat} (hd : der S d = d) (h : sw k m d = true) (hk : k ≤ 16777216) (hm : m ≤ 50) : reprD S [d] = some (.str d.pd.shown) := by
  rw [sw_iff] at h
  unfold reprD
  simp only [hd]
  rw [if_pos ⟨h.1, h.2.1, by omega, by omega⟩]
theorem neS_self {S : Sto} {x : Str} : neSD S (.str x) (.str x) = some (.bl false) := by
  simp [neSD, neSB]
/-! all of this at once -/
structure Ev (B k m : Nat) (d : D) : Prop where
  od : od d = true
  ib : ib B d = true
  sw : sw k m d = true
def evb (B k m : Nat) (d : D) : Bool := od d && ib B d && sw k m d
theorem ev_iff {B k m : Nat} {d : D} : evb B k m d = true ↔ Ev B k m d := by
  simp only [evb, Bool.and_eq_true]
  exact ⟨fun ⟨⟨h1, h2⟩, h3⟩ => ⟨h1, h2, h3⟩, fun h => ⟨⟨h.od, h.ib⟩, h.sw⟩⟩
theorem Ev.up {B k m k' m' : Nat} {d : D} (h : Ev B k m d) (hk : k ≤ k') (hm : m ≤ m') : Ev B k' m' d := ⟨h.od, h.ib, sw_up h.sw hk hm⟩
theorem Ev.lo {B k m : Nat} {d : D} (h : Ev B k m d) (n : Nat) : d.lo n := ib_lo d h.ib
theorem ev_tup {B k m n : Nat} {l : List D} (h : ∀ d ∈ l, Ev B k m d) (hl : l.length ≤ n) (hn : n ≤ 1000) : Ev B ((k + 2) * n + 3) (m + 1) (.tup l) :=
  ⟨od_tup.mpr ⟨fun d hd => (h d hd).od, by omega⟩, ib_tup.mpr fun d hd => (h d hd).ib, sw_tup (fun d hd => (h d hd).sw) hl⟩
theorem ev_lst {B k m n : Nat} {l : List D} (h : ∀ d ∈ l, Ev B k m d) (hl : l.length ≤ n) (hn : n ≤ 1000) : Ev B ((k + 2) * n + 3) (m + 1) (.lst l) :=
  ⟨od_lst.mpr ⟨fun d hd => (h d hd).od, by omega⟩, ib_lst.mpr fun d hd => (h d hd).ib, sw_lst (fun d hd => (h d hd).sw) hl⟩
theorem ev_int {B m : Nat} {i : Int} (h0 : 0 < B) (hB : B ≤ 1900) (h : i.natAbs < 2 ^ B) : Ev B (B + 1) m (.int i) := ⟨rfl, by simpa [Mi.ib] using h, sw_up (sw_int h0 hB h) (Nat.le_refl _) (Nat.zero_le _)⟩
theorem ev_str {B m n : Nat} {x : Str} (h : SeqAt.shaped (.str x) = true) (hl : x.length ≤ n) : Ev B (10 * n + 2) m (.str x) := ⟨h, rfl, sw_up (sw_str h hl) (Nat.le_refl _) (Nat.zero_le _)⟩
theorem ev_der {B k m : Nat} {d : D} {S : Sto} (h : Ev B k m d) : der S d = d := by
  have := h.ib
  cases d <;> first | rfl | (simp [Mi.ib] at this)
theorem Ev.repr {B k m : Nat} {d : D} {S : Sto} (h : Ev B k m d) (hk : k ≤ 16777216) (hm : m ≤ 50) : reprD S [d] = some (.str d.pd.shown) := reprD_sw (ev_der h) h.sw hk hm
theorem ib_int {B : Nat} {i : Int} (h : ib B (.int i) = true) : i.natAbs < 2 ^ B := of_decide_eq_true (by simpa [Mi.ib] using h)
theorem Ev.tupE {B k m : Nat} {l : List D} (h : Ev B k m (.tup l)) : ∀ d ∈ l, Mi.od d = true ∧ Mi.ib B d = true := fun d hd => ⟨(od_tup.mp h.od).1 d hd, ib_tup.mp h.ib d hd⟩
end Mi

namespace K31
open PySem PySem.Spec PyProof.Rows L2 Mi
structure Fx (K : PySem.W.Frag) (mg : Str → Option Value) : Prop where
  g_is_int : ∃ f fd, Got K mg "is_int" st_is_int f fd
  g_is_from : ∃ f fd, Got K mg "is_from" st_is_from f fd
  g_is_tuple : ∃ f fd, Got K mg "is_tuple" st_is_tuple f fd
  g_is_word : ∃ f fd, Got K mg "is_word" st_is_word f fd
  g_common_part : ∃ f fd, Got K mg "common_part" st_common_part f fd
  g_is_spot_value : ∃ f fd, Got K mg "is_spot_value" st_is_spot_value f fd
  g_lowest_spot : ∃ f fd, Got K mg "lowest_spot" st_lowest_spot f fd
  g_cross : ∃ f fd, Got K mg "cross" st_cross f fd
  g_dot : ∃ f fd, Got K mg "dot" st_dot f fd
  g_determinant : ∃ f fd, Got K mg "determinant" st_determinant f fd
  g_sees_something : ∃ f fd, Got K mg "sees_something" st_sees_something f fd
  g_is_chart_value : ∃ f fd, Got K mg "is_chart_value" st_is_chart_value f fd
  g_need_chart : ∃ f fd, Got K mg "need_chart" st_need_chart f fd
  g_numbers_of : ∃ f fd, Got K mg "numbers_of" st_numbers_of f fd
  g_sent_to : ∃ f fd, Got K mg "sent_to" st_sent_to f fd
  g_parting_spot : ∃ f fd, Got K mg "parting_spot" st_parting_spot f fd
  g_judge_charts : ∃ f fd, Got K mg "judge_charts" st_judge_charts f fd
  g_charts_holds : ∃ f fd, Got K mg "charts_holds" st_charts_holds f fd
  g__law_deck : ∃ f fd, Got K mg "_law_deck" st__law_deck f fd
  g__law_draw : ∃ f fd, Got K mg "_law_draw" st__law_draw f fd
  g__law_pick : ∃ f fd, Got K mg "_law_pick" st__law_pick f fd
  g__law_shuffled : ∃ f fd, Got K mg "_law_shuffled" st__law_shuffled f fd
  g__law_far : ∃ f fd, Got K mg "_law_far" st__law_far f fd
  g__law_is_bool : ∃ f fd, Got K mg "_law_is_bool" st__law_is_bool f fd
  g__law_gcd : ∃ f fd, Got K mg "_law_gcd" st__law_gcd f fd
  g__law_spot : ∃ f fd, Got K mg "_law_spot" st__law_spot f fd
  g__law_is_int : ∃ f fd, Got K mg "_law_is_int" st__law_is_int f fd
  g__law_is_spot : ∃ f fd, Got K mg "_law_is_spot" st__law_is_spot f fd
  g__law_odd : ∃ f fd, Got K mg "_law_odd" st__law_odd f fd
  g__law_bent : ∃ f fd, Got K mg "_law_bent" st__law_bent f fd
  g__law_number : ∃ f fd, Got K mg "_law_number" st__law_number f fd
  g__law_any_spot : ∃ f fd, Got K mg "_law_any_spot" st__law_any_spot f fd
  g__law_is_within : ∃ f fd, Got K mg "_law_is_within" st__law_is_within f fd
  g__law_det : ∃ f fd, Got K mg "_law_det" st__law_det f fd
  g__law_is_chart : ∃ f fd, Got K mg "_law_is_chart" st__law_is_chart f fd
  g__law_chart : ∃ f fd, Got K mg "_law_chart" st__law_chart f fd
  g__law_numbers : ∃ f fd, Got K mg "_law_numbers" st__law_numbers f fd
  g__law_sent : ∃ f fd, Got K mg "_law_sent" st__law_sent f fd
  g__law_lowest : ∃ f fd, Got K mg "_law_lowest" st__law_lowest f fd
  g__law_are_small : ∃ f fd, Got K mg "_law_are_small" st__law_are_small f fd
  g__law_border_spot : ∃ f fd, Got K mg "_law_border_spot" st__law_border_spot f fd
  g__law_are_alike : ∃ f fd, Got K mg "_law_are_alike" st__law_are_alike f fd
  g__law_is_paper : ∃ f fd, Got K mg "_law_is_paper" st__law_is_paper f fd
  g__law_scaled : ∃ f fd, Got K mg "_law_scaled" st__law_scaled f fd
  g__law_near_chart : ∃ f fd, Got K mg "_law_near_chart" st__law_near_chart f fd
  g__law_things : ∃ f fd, Got K mg "_law_things" st__law_things f fd
  g_law : ∃ f fd, Got K mg "law" st_law f fd
  n_abs : mg "abs" = none
  n_all : mg "all" = none
  n_bool : mg "bool" = none
  n_enumerate : mg "enumerate" = none
  n_int : mg "int" = none
  n_isinstance : mg "isinstance" = none
  n_len : mg "len" = none
  n_list : mg "list" = none
  n_max : mg "max" = none
  n_min : mg "min" = none
  n_range : mg "range" = none
  n_repr : mg "repr" = none
  n_str : mg "str" = none
  n_tuple : mg "tuple" = none
  n_zip : mg "zip" = none
  v_ALIKE : ∃ t, mg "ALIKE" = some (.str "alike" t)
  v_PARTED : ∃ t, mg "PARTED" = some (.str "parted" t)
  v_SIZE : ∃ t, mg "SIZE" = some (.int 3 t)
theorem bk_judge_charts_0_other_one : BindKOk "judge_charts" st_judge_charts ["one", "other"] 0 ["other", "one"] [1, 0] := fun _ _ _ _ _ _ us ws h1 h2 => match us, ws, h1, h2 with | [], [_, _], _, _ => rfl
theorem bk_charts_holds_0_thing_other_one : BindKOk "charts_holds" st_charts_holds ["one", "other", "thing"] 0 ["thing", "other", "one"] [2, 1, 0] := fun _ _ _ _ _ _ us ws h1 h2 => match us, ws, h1, h2 with | [], [_, _, _], _, _ => rfl
section
variable {P : Program} {w : World} {K : PySem.W.Frag} {mg : Str → Option Value} {base : Heap}
abbrev N_is_int : List Str := ["thing"]
theorem sc_is_int : FnScope N_is_int ["thing"] (defScope st_is_int) := ⟨rfl, rfl, rfl, by decide +kernel, rfl, by decide +kernel, by decide +kernel⟩
theorem bd_is_int : BindOk "is_int" st_is_int ["thing"] := fun _ _ _ _ _ _ us hl => match us, hl with | [_], _ => rfl
noncomputable def b_is_int : SM :=
      (sRet (mAnd (mB isiD (aCons (mVar 0) (aCons (mC (.ty "int")) aNil))) (mNot (mB isiD (aCons (mVar 0) (aCons (mC (.ty "bool")) aNil))))))
noncomputable def m_is_int : FM := fnP N_is_int.length b_is_int
theorem ok_is_int (c : Fx K mg) : FD P w K mg base "is_int" st_is_int ["thing"] 1 m_is_int := by
    obtain ⟨f, fd, G⟩ := c.g_is_int
    refine (fd_mk (k := 0) G sc_is_int fun X W cdv A outer s H E eX eW tk hp hr => ?_)
    have hu := hr.units
    have hu65 : X.A.units + 65 < cLine := by have := hr.un; omega
    have hu1 : X.A.units + 1 < cLine := by have := hr.un; omega
    have nd := sc_is_int.nd
    subst eX
    exact (b_one (s_ret (d_and (d_B (cD_isi) (by rfl) c.n_isinstance bt_isinstance (a_cons (d_var (i := 0) rfl (Or.inl rfl)) (a_cons (d_ty (by rfl) c.n_int bt_int) a_nil))) (d_one (d_not (d_B (cD_isi) (by rfl) c.n_isinstance bt_isinstance (a_cons (d_var (i := 0) rfl (Or.inl rfl)) (a_cons (d_ty (by rfl) c.n_bool bt_bool) a_nil))))))))

abbrev N_is_from : List Str := ["thing", "least"]
theorem sc_is_from : FnScope N_is_from ["thing", "least"] (defScope st_is_from) := ⟨rfl, rfl, rfl, by decide +kernel, rfl, by decide +kernel, by decide +kernel⟩
theorem bd_is_from : BindOk "is_from" st_is_from ["thing", "least"] := fun _ _ _ _ _ _ us hl => match us, hl with | [_, _], _ => rfl
noncomputable def b_is_from : SM :=
      (sRet (mAnd (mCall 1 m_is_int (aCons (mVar 0) aNil)) (mOp geD (mVar 0) (mVar 1))))
noncomputable def m_is_from : FM := fnP N_is_from.length b_is_from
theorem ok_is_from (c : Fx K mg) : FD P w K mg base "is_from" st_is_from ["thing", "least"] 2 m_is_from := by
    obtain ⟨f, fd, G⟩ := c.g_is_from
    refine (fd_mk (k := 1) G sc_is_from fun X W cdv A outer s H E eX eW tk hp hr => ?_)
    have hu := hr.units
    have hu65 : X.A.units + 65 < cLine := by have := hr.un; omega
    have hu1 : X.A.units + 1 < cLine := by have := hr.un; omega
    have nd := sc_is_from.nd
    subst eX
    exact (b_one (s_ret (d_and (d_call (ok_is_int c) bd_is_int (hr.mono (by decide)) rfl tk (a_cons (d_var (i := 0) rfl (Or.inl rfl)) a_nil)) (d_one (d_cmp opD_ge (d_var (i := 0) rfl (Or.inl rfl)) (d_var (i := 1) rfl (Or.inl rfl)) rfl)))))

abbrev N_is_tuple : List Str := ["thing", "many"]
theorem sc_is_tuple : FnScope N_is_tuple ["thing", "many"] (defScope st_is_tuple) := ⟨rfl, rfl, rfl, by decide +kernel, rfl, by decide +kernel, by decide +kernel⟩
theorem bd_is_tuple : BindOk "is_tuple" st_is_tuple ["thing", "many"] := fun _ _ _ _ _ _ us hl => match us, hl with | [_, _], _ => rfl
noncomputable def b_is_tuple : SM :=
      (sRet (mAnd (mB isiD (aCons (mVar 0) (aCons (mC (.ty "tuple")) aNil))) (mOp eqD (mB lenD (aCons (mVar 0) aNil)) (mVar 1))))
noncomputable def m_is_tuple : FM := fnP N_is_tuple.length b_is_tuple
theorem ok_is_tuple (c : Fx K mg) : FD P w K mg base "is_tuple" st_is_tuple ["thing", "many"] 1 m_is_tuple := by
    obtain ⟨f, fd, G⟩ := c.g_is_tuple
    refine (fd_mk (k := 0) G sc_is_tuple fun X W cdv A outer s H E eX eW tk hp hr => ?_)
    have hu := hr.units
    have hu65 : X.A.units + 65 < cLine := by have := hr.un; omega
    have hu1 : X.A.units + 1 < cLine := by have := hr.un; omega
    have nd := sc_is_tuple.nd
    subst eX
    exact (b_one (s_ret (d_and (d_B (cD_isi) (by rfl) c.n_isinstance bt_isinstance (a_cons (d_var (i := 0) rfl (Or.inl rfl)) (a_cons (d_ty (by rfl) c.n_tuple bt_tuple) a_nil))) (d_one (d_cmp (opD_eq hu) (d_B (cD_len) (by rfl) c.n_len bt_len (a_cons (d_var (i := 0) rfl (Or.inl rfl)) a_nil)) (d_var (i := 1) rfl (Or.inl rfl)) rfl)))))

abbrev N_is_word : List Str := ["thing", "words"]
theorem sc_is_word : FnScope N_is_word ["thing", "words"] (defScope st_is_word) := ⟨rfl, rfl, rfl, by decide +kernel, rfl, by decide +kernel, by decide +kernel⟩
theorem bd_is_word : BindOk "is_word" st_is_word ["thing", "words"] := fun _ _ _ _ _ _ us hl => match us, hl with | [_, _], _ => rfl
noncomputable def b_is_word : SM :=
      (sRet (mAnd (mB isiD (aCons (mVar 0) (aCons (mC (.ty "str")) aNil))) (mOp inD (mVar 0) (mVar 1))))
noncomputable def m_is_word : FM := fnP N_is_word.length b_is_word
theorem ok_is_word (c : Fx K mg) : FD P w K mg base "is_word" st_is_word ["thing", "words"] 1 m_is_word := by
    obtain ⟨f, fd, G⟩ := c.g_is_word
    refine (fd_mk (k := 0) G sc_is_word fun X W cdv A outer s H E eX eW tk hp hr => ?_)
    have hu := hr.units
    have hu65 : X.A.units + 65 < cLine := by have := hr.un; omega
    have hu1 : X.A.units + 1 < cLine := by have := hr.un; omega
    have nd := sc_is_word.nd
    subst eX
    exact (b_one (s_ret (d_and (d_B (cD_isi) (by rfl) c.n_isinstance bt_isinstance (a_cons (d_var (i := 0) rfl (Or.inl rfl)) (a_cons (d_ty (by rfl) c.n_str bt_str) a_nil))) (d_one (d_cmp (opD_in hu65) (d_var (i := 0) rfl (Or.inl rfl)) (d_var (i := 1) rfl (Or.inl rfl)) rfl)))))

abbrev N_common_part : List Str := ["one", "other"]
theorem sc_common_part : FnScope N_common_part ["one", "other"] (defScope st_common_part) := ⟨rfl, rfl, rfl, by decide +kernel, rfl, by decide +kernel, by decide +kernel⟩
theorem bd_common_part : BindOk "common_part" st_common_part ["one", "other"] := fun _ _ _ _ _ _ us hl => match us, hl with | [_, _], _ => rfl
noncomputable def b_common_part : SM :=
      (sSeq (sPar [0, 1] (aCons (mB absD (aCons (mVar 0) aNil)) (aCons (mB absD (aCons (mVar 1) aNil)) aNil)))
      (sSeq (sWhile (bVal (mOp neD (mVar 1) (mC (.int 0)))) (sPar [0, 1] (aCons (mVar 1) (aCons (mOp modD (mVar 0) (mVar 1)) aNil))))
      (sRet (mVar 0))))
noncomputable def m_common_part : FM := fnP N_common_part.length b_common_part
theorem ok_common_part (c : Fx K mg) : FD P w K mg base "common_part" st_common_part ["one", "other"] 1 m_common_part := by
    obtain ⟨f, fd, G⟩ := c.g_common_part
    refine (fd_mk (k := 0) G sc_common_part fun X W cdv A outer s H E eX eW tk hp hr => ?_)
    have hu := hr.units
    have hu65 : X.A.units + 65 < cLine := by have := hr.un; omega
    have hu1 : X.A.units + 1 < cLine := by have := hr.un; omega
    have nd := sc_common_part.nd
    subst eX
    exact (b_cons (s_par2 (i := 0) (j := 1) rfl nd rfl rfl (by decide) rfl rfl (a_cons (d_B (cD_abs) (by rfl) c.n_abs bt_abs (a_cons (d_var (i := 0) rfl (Or.inl rfl)) a_nil)) (a_cons (d_B (cD_abs) (by rfl) c.n_abs bt_abs (a_cons (d_var (i := 1) rfl (Or.inl rfl)) a_nil)) a_nil)))
      (b_cons (s_while hp (t_cmp (opD_ne hu) (d_var (i := 1) rfl (Or.inl rfl)) d_int rfl) (b_one (s_par2 (i := 0) (j := 1) rfl nd rfl rfl (by decide) rfl rfl (a_cons (d_var (i := 1) rfl (Or.inl rfl)) (a_cons (d_bin opD_mod (d_var (i := 0) rfl (Or.inl rfl)) (d_var (i := 1) rfl (Or.inl rfl))) a_nil)))))
      (b_one (s_ret (d_var (i := 0) rfl (Or.inl rfl))))))

abbrev N_is_spot_value : List Str := ["thing"]
theorem sc_is_spot_value : FnScope N_is_spot_value ["thing"] (defScope st_is_spot_value) := ⟨rfl, rfl, rfl, by decide +kernel, rfl, by decide +kernel, by decide +kernel⟩
theorem bd_is_spot_value : BindOk "is_spot_value" st_is_spot_value ["thing"] := fun _ _ _ _ _ _ us hl => match us, hl with | [_], _ => rfl
noncomputable def b_is_spot_value : SM :=
      (sSeq (sIf (bOr (bNot (bVal (mCall 2 m_is_tuple (aCons (mVar 0) (aCons (mC (.int 3)) aNil))))) (bOr (bNot (bVal (mCall 1 m_is_int (aCons (mOp ixD (mVar 0) (mC (.int 0))) aNil)))) (bOr (bNot (bVal (mCall 1 m_is_int (aCons (mOp ixD (mVar 0) (mC (.int 1))) aNil)))) (bNot (bVal (mCall 2 m_is_from (aCons (mOp ixD (mVar 0) (mC (.int 2))) (aCons (mC (.int 1)) aNil)))))))) (sRet (mC (.bl false))) sNil)
      (sRet (mOp eqD (mCall 2 m_common_part (aCons (mCall 2 m_common_part (aCons (mOp ixD (mVar 0) (mC (.int 0))) (aCons (mOp ixD (mVar 0) (mC (.int 1))) aNil))) (aCons (mOp ixD (mVar 0) (mC (.int 2))) aNil))) (mC (.int 1)))))
noncomputable def m_is_spot_value : FM := fnP N_is_spot_value.length b_is_spot_value
theorem ok_is_spot_value (c : Fx K mg) : FD P w K mg base "is_spot_value" st_is_spot_value ["thing"] 3 m_is_spot_value := by
    obtain ⟨f, fd, G⟩ := c.g_is_spot_value
    refine (fd_mk (k := 2) G sc_is_spot_value fun X W cdv A outer s H E eX eW tk hp hr => ?_)
    have hu := hr.units
    have hu65 : X.A.units + 65 < cLine := by have := hr.un; omega
    have hu1 : X.A.units + 1 < cLine := by have := hr.un; omega
    have nd := sc_is_spot_value.nd
    subst eX
    exact (b_cons (s_if (t_bool (w_or (t_not (t_val (d_call (ok_is_tuple c) bd_is_tuple (hr.mono (by decide)) rfl tk (a_cons (d_var (i := 0) rfl (Or.inl rfl)) (a_cons d_int a_nil))))) (w_or (t_not (t_val (d_call (ok_is_int c) bd_is_int (hr.mono (by decide)) rfl tk (a_cons (d_ix hu1 (d_var (i := 0) rfl (Or.inl rfl)) d_int (fun _ _ => rfl)) a_nil)))) (w_or (t_not (t_val (d_call (ok_is_int c) bd_is_int (hr.mono (by decide)) rfl tk (a_cons (d_ix hu1 (d_var (i := 0) rfl (Or.inl rfl)) d_int (fun _ _ => rfl)) a_nil)))) (w_or1 (t_not (t_val (d_call (ok_is_from c) bd_is_from (hr.mono (by decide)) rfl tk (a_cons (d_ix hu1 (d_var (i := 0) rfl (Or.inl rfl)) d_int (fun _ _ => rfl)) (a_cons d_int a_nil)))))))))) (b_one (s_ret d_bl)) b_nil)
      (b_one (s_ret (d_cmp (opD_eq hu) (d_call (ok_common_part c) bd_common_part (hr.mono (by decide)) rfl tk (a_cons (d_call (ok_common_part c) bd_common_part (hr.mono (by decide)) rfl tk (a_cons (d_ix hu1 (d_var (i := 0) rfl (Or.inl rfl)) d_int (fun _ _ => rfl)) (a_cons (d_ix hu1 (d_var (i := 0) rfl (Or.inl rfl)) d_int (fun _ _ => rfl)) a_nil))) (a_cons (d_ix hu1 (d_var (i := 0) rfl (Or.inl rfl)) d_int (fun _ _ => rfl)) a_nil))) d_int rfl))))

abbrev N_lowest_spot : List Str := ["x", "y", "w", "part"]
theorem sc_lowest_spot : FnScope N_lowest_spot ["x", "y", "w"] (defScope st_lowest_spot) := ⟨rfl, rfl, rfl, by decide +kernel, rfl, by decide +kernel, by decide +kernel⟩
theorem bd_lowest_spot : BindOk "lowest_spot" st_lowest_spot ["x", "y", "w"] := fun _ _ _ _ _ _ us hl => match us, hl with | [_, _, _], _ => rfl
noncomputable def b_lowest_spot : SM :=
      (sSeq (sAsg (mCall 2 m_common_part (aCons (mCall 2 m_common_part (aCons (mVar 0) (aCons (mVar 1) aNil))) (aCons (mVar 2) aNil))) (gN 3))
      (sSeq (sAsg (mIf (bVal (mOp ltD (mVar 2) (mC (.int 0)))) (mUn negD (mVar 3)) (mVar 3)) (gN 3))
      (sRet (mTup (aCons (mOp fdivD (mVar 0) (mVar 3)) (aCons (mOp fdivD (mVar 1) (mVar 3)) (aCons (mOp fdivD (mVar 2) (mVar 3)) aNil)))))))
noncomputable def m_lowest_spot : FM := fnP N_lowest_spot.length b_lowest_spot
theorem ok_lowest_spot (c : Fx K mg) : FD P w K mg base "lowest_spot" st_lowest_spot ["x", "y", "w"] 2 m_lowest_spot := by
    obtain ⟨f, fd, G⟩ := c.g_lowest_spot
    refine (fd_mk (k := 1) G sc_lowest_spot fun X W cdv A outer s H E eX eW tk hp hr => ?_)
    have hu := hr.units
    have hu65 : X.A.units + 65 < cLine := by have := hr.un; omega
    have hu1 : X.A.units + 1 < cLine := by have := hr.un; omega
    have nd := sc_lowest_spot.nd
    subst eX
    exact (b_cons (s_set nd (i := 3) rfl (Or.inl rfl) (Or.inr rfl) (d_call (ok_common_part c) bd_common_part (hr.mono (by decide)) rfl tk (a_cons (d_call (ok_common_part c) bd_common_part (hr.mono (by decide)) rfl tk (a_cons (d_var (i := 0) rfl (Or.inl rfl)) (a_cons (d_var (i := 1) rfl (Or.inl rfl)) a_nil))) (a_cons (d_var (i := 2) rfl (Or.inl rfl)) a_nil))))
      (b_cons (s_set nd (i := 3) rfl (Or.inl rfl) (Or.inr rfl) (d_if (t_cmp opD_lt (d_var (i := 2) rfl (Or.inl rfl)) d_int rfl) (d_un unD_neg (d_var (i := 3) rfl (Or.inl rfl))) (d_var (i := 3) rfl (Or.inl rfl))))
      (b_one (s_ret (d_tup (a_cons (d_bin opD_fdiv (d_var (i := 0) rfl (Or.inl rfl)) (d_var (i := 3) rfl (Or.inl rfl))) (a_cons (d_bin opD_fdiv (d_var (i := 1) rfl (Or.inl rfl)) (d_var (i := 3) rfl (Or.inl rfl))) (a_cons (d_bin opD_fdiv (d_var (i := 2) rfl (Or.inl rfl)) (d_var (i := 3) rfl (Or.inl rfl))) a_nil))))))))

abbrev N_cross : List Str := ["one", "other"]
theorem sc_cross : FnScope N_cross ["one", "other"] (defScope st_cross) := ⟨rfl, rfl, rfl, by decide +kernel, rfl, by decide +kernel, by decide +kernel⟩
theorem bd_cross : BindOk "cross" st_cross ["one", "other"] := fun _ _ _ _ _ _ us hl => match us, hl with | [_, _], _ => rfl
noncomputable def b_cross : SM :=
      (sRet (mTup (aCons (mOp subD (mOp mulD (mOp ixD (mVar 0) (mC (.int 1))) (mOp ixD (mVar 1) (mC (.int 2)))) (mOp mulD (mOp ixD (mVar 0) (mC (.int 2))) (mOp ixD (mVar 1) (mC (.int 1))))) (aCons (mOp subD (mOp mulD (mOp ixD (mVar 0) (mC (.int 2))) (mOp ixD (mVar 1) (mC (.int 0)))) (mOp mulD (mOp ixD (mVar 0) (mC (.int 0))) (mOp ixD (mVar 1) (mC (.int 2))))) (aCons (mOp subD (mOp mulD (mOp ixD (mVar 0) (mC (.int 0))) (mOp ixD (mVar 1) (mC (.int 1)))) (mOp mulD (mOp ixD (mVar 0) (mC (.int 1))) (mOp ixD (mVar 1) (mC (.int 0))))) aNil)))))
noncomputable def m_cross : FM := fnP N_cross.length b_cross
theorem ok_cross (c : Fx K mg) : FD P w K mg base "cross" st_cross ["one", "other"] 1 m_cross := by
    obtain ⟨f, fd, G⟩ := c.g_cross
    refine (fd_mk (k := 0) G sc_cross fun X W cdv A outer s H E eX eW tk hp hr => ?_)
    have hu := hr.units
    have hu65 : X.A.units + 65 < cLine := by have := hr.un; omega
    have hu1 : X.A.units + 1 < cLine := by have := hr.un; omega
    have nd := sc_cross.nd
    subst eX
    exact (b_one (s_ret (d_tup (a_cons (d_bin opD_sub (d_bin opD_mul (d_ix hu1 (d_var (i := 0) rfl (Or.inl rfl)) d_int (fun _ _ => rfl)) (d_ix hu1 (d_var (i := 1) rfl (Or.inl rfl)) d_int (fun _ _ => rfl))) (d_bin opD_mul (d_ix hu1 (d_var (i := 0) rfl (Or.inl rfl)) d_int (fun _ _ => rfl)) (d_ix hu1 (d_var (i := 1) rfl (Or.inl rfl)) d_int (fun _ _ => rfl)))) (a_cons (d_bin opD_sub (d_bin opD_mul (d_ix hu1 (d_var (i := 0) rfl (Or.inl rfl)) d_int (fun _ _ => rfl)) (d_ix hu1 (d_var (i := 1) rfl (Or.inl rfl)) d_int (fun _ _ => rfl))) (d_bin opD_mul (d_ix hu1 (d_var (i := 0) rfl (Or.inl rfl)) d_int (fun _ _ => rfl)) (d_ix hu1 (d_var (i := 1) rfl (Or.inl rfl)) d_int (fun _ _ => rfl)))) (a_cons (d_bin opD_sub (d_bin opD_mul (d_ix hu1 (d_var (i := 0) rfl (Or.inl rfl)) d_int (fun _ _ => rfl)) (d_ix hu1 (d_var (i := 1) rfl (Or.inl rfl)) d_int (fun _ _ => rfl))) (d_bin opD_mul (d_ix hu1 (d_var (i := 0) rfl (Or.inl rfl)) d_int (fun _ _ => rfl)) (d_ix hu1 (d_var (i := 1) rfl (Or.inl rfl)) d_int (fun _ _ => rfl)))) a_nil))))))

abbrev N_dot : List Str := ["one", "other"]
theorem sc_dot : FnScope N_dot ["one", "other"] (defScope st_dot) := ⟨rfl, rfl, rfl, by decide +kernel, rfl, by decide +kernel, by decide +kernel⟩
theorem bd_dot : BindOk "dot" st_dot ["one", "other"] := fun _ _ _ _ _ _ us hl => match us, hl with | [_, _], _ => rfl
noncomputable def b_dot : SM :=
      (sRet (mOp addD (mOp addD (mOp mulD (mOp ixD (mVar 0) (mC (.int 0))) (mOp ixD (mVar 1) (mC (.int 0)))) (mOp mulD (mOp ixD (mVar 0) (mC (.int 1))) (mOp ixD (mVar 1) (mC (.int 1))))) (mOp mulD (mOp ixD (mVar 0) (mC (.int 2))) (mOp ixD (mVar 1) (mC (.int 2))))))
noncomputable def m_dot : FM := fnP N_dot.length b_dot
theorem ok_dot (c : Fx K mg) : FD P w K mg base "dot" st_dot ["one", "other"] 1 m_dot := by
    obtain ⟨f, fd, G⟩ := c.g_dot
    refine (fd_mk (k := 0) G sc_dot fun X W cdv A outer s H E eX eW tk hp hr => ?_)
    have hu := hr.units
    have hu65 : X.A.units + 65 < cLine := by have := hr.un; omega
    have hu1 : X.A.units + 1 < cLine := by have := hr.un; omega
    have nd := sc_dot.nd
    subst eX
    exact (b_one (s_ret (d_bin opD_add (d_bin opD_add (d_bin opD_mul (d_ix hu1 (d_var (i := 0) rfl (Or.inl rfl)) d_int (fun _ _ => rfl)) (d_ix hu1 (d_var (i := 1) rfl (Or.inl rfl)) d_int (fun _ _ => rfl))) (d_bin opD_mul (d_ix hu1 (d_var (i := 0) rfl (Or.inl rfl)) d_int (fun _ _ => rfl)) (d_ix hu1 (d_var (i := 1) rfl (Or.inl rfl)) d_int (fun _ _ => rfl)))) (d_bin opD_mul (d_ix hu1 (d_var (i := 0) rfl (Or.inl rfl)) d_int (fun _ _ => rfl)) (d_ix hu1 (d_var (i := 1) rfl (Or.inl rfl)) d_int (fun _ _ => rfl))))))

abbrev N_determinant : List Str := ["rows"]
theorem sc_determinant : FnScope N_determinant ["rows"] (defScope st_determinant) := ⟨rfl, rfl, rfl, by decide +kernel, rfl, by decide +kernel, by decide +kernel⟩
theorem bd_determinant : BindOk "determinant" st_determinant ["rows"] := fun _ _ _ _ _ _ us hl => match us, hl with | [_], _ => rfl
noncomputable def b_determinant : SM :=
      (sRet (mCall 2 m_dot (aCons (mOp ixD (mVar 0) (mC (.int 0))) (aCons (mCall 2 m_cross (aCons (mOp ixD (mVar 0) (mC (.int 1))) (aCons (mOp ixD (mVar 0) (mC (.int 2))) aNil))) aNil))))
noncomputable def m_determinant : FM := fnP N_determinant.length b_determinant
theorem ok_determinant (c : Fx K mg) : FD P w K mg base "determinant" st_determinant ["rows"] 2 m_determinant := by
    obtain ⟨f, fd, G⟩ := c.g_determinant
    refine (fd_mk (k := 1) G sc_determinant fun X W cdv A outer s H E eX eW tk hp hr => ?_)
    have hu := hr.units
    have hu65 : X.A.units + 65 < cLine := by have := hr.un; omega
    have hu1 : X.A.units + 1 < cLine := by have := hr.un; omega
    have nd := sc_determinant.nd
    subst eX
    exact (b_one (s_ret (d_call (ok_dot c) bd_dot (hr.mono (by decide)) rfl tk (a_cons (d_ix hu1 (d_var (i := 0) rfl (Or.inl rfl)) d_int (fun _ _ => rfl)) (a_cons (d_call (ok_cross c) bd_cross (hr.mono (by decide)) rfl tk (a_cons (d_ix hu1 (d_var (i := 0) rfl (Or.inl rfl)) d_int (fun _ _ => rfl)) (a_cons (d_ix hu1 (d_var (i := 0) rfl (Or.inl rfl)) d_int (fun _ _ => rfl)) a_nil))) a_nil)))))

abbrev N_sees_something : List Str := ["rows", "a", "b", "c"]
theorem sc_sees_something : FnScope N_sees_something ["rows"] (defScope st_sees_something) := ⟨rfl, rfl, rfl, by decide +kernel, rfl, by decide +kernel, by decide +kernel⟩
theorem bd_sees_something : BindOk "sees_something" st_sees_something ["rows"] := fun _ _ _ _ _ _ us hl => match us, hl with | [_], _ => rfl
noncomputable def b_sees_something : SM :=
      (sSeq (sAsg (mOp ixD (mVar 0) (mC (.int 2))) (gT [(gN 1), (gN 2), (gN 3)]))
      (sRet (mOr (mOp neD (mTup (aCons (mVar 1) (aCons (mVar 2) aNil))) (mTup (aCons (mC (.int 0)) (aCons (mC (.int 0)) aNil)))) (mOp geD (mVar 3) (mC (.int 0))))))
noncomputable def m_sees_something : FM := fnP N_sees_something.length b_sees_something
theorem ok_sees_something (c : Fx K mg) : FD P w K mg base "sees_something" st_sees_something ["rows"] 1 m_sees_something := by
    obtain ⟨f, fd, G⟩ := c.g_sees_something
    refine (fd_mk (k := 0) G sc_sees_something fun X W cdv A outer s H E eX eW tk hp hr => ?_)
    have hu := hr.units
    have hu65 : X.A.units + 65 < cLine := by have := hr.un; omega
    have hu1 : X.A.units + 1 < cLine := by have := hr.un; omega
    have nd := sc_sees_something.nd
    subst eX
    exact (b_cons (s_asg (d_ix hu1 (d_var (i := 0) rfl (Or.inl rfl)) d_int (fun _ _ => rfl)) (g_tup rfl (gs_cons (g_name nd (i := 1) rfl (Or.inl rfl) (Or.inr rfl)) (gs_cons (g_name nd (i := 2) rfl (Or.inl rfl) (Or.inr rfl)) (gs_cons (g_name nd (i := 3) rfl (Or.inl rfl) (Or.inr rfl)) gs_nil)))))
      (b_one (s_ret (d_or (d_cmp (opD_ne hu) (d_tup (a_cons (d_var (i := 1) rfl (Or.inl rfl)) (a_cons (d_var (i := 2) rfl (Or.inl rfl)) a_nil))) (d_tup (a_cons d_int (a_cons d_int a_nil))) rfl) (d_one (d_cmp opD_ge (d_var (i := 3) rfl (Or.inl rfl)) d_int rfl))))))

abbrev N_is_chart_value : List Str := ["thing", "row", "item"]
theorem sc_is_chart_value : FnScope N_is_chart_value ["thing"] (defScope st_is_chart_value) := ⟨rfl, rfl, rfl, by decide +kernel, rfl, by decide +kernel, by decide +kernel⟩
theorem bd_is_chart_value : BindOk "is_chart_value" st_is_chart_value ["thing"] := fun _ _ _ _ _ _ us hl => match us, hl with | [_], _ => rfl
noncomputable def b_is_chart_value : SM :=
      (sSeq (sIf (bOr (bNot (bVal (mCall 2 m_is_tuple (aCons (mVar 0) (aCons (mC (.int 3)) aNil))))) (bNot (bVal (mB allD (aCons (mLc (iSeq (mVar 0)) (gN 1) bYes (mCall 2 m_is_tuple (aCons (mVar 1) (aCons (mC (.int 3)) aNil))) [1]) aNil))))) (sRet (mC (.bl false))) sNil)
      (sSeq (sIf (bNot (bVal (mB allD (aCons (mLc2 (iSeq (mVar 0)) (gN 1) bYes (mVar 1) (gN 2) bYes (mCall 1 m_is_int (aCons (mVar 2) aNil)) [1, 2] [2]) aNil)))) (sRet (mC (.bl false))) sNil)
      (sRet (mAnd (mOp neD (mCall 1 m_determinant (aCons (mVar 0) aNil)) (mC (.int 0))) (mCall 1 m_sees_something (aCons (mVar 0) aNil))))))
noncomputable def m_is_chart_value : FM := fnP N_is_chart_value.length b_is_chart_value
theorem ok_is_chart_value (c : Fx K mg) : FD P w K mg base "is_chart_value" st_is_chart_value ["thing"] 3 m_is_chart_value := by
    obtain ⟨f, fd, G⟩ := c.g_is_chart_value
    refine (fd_mk (k := 2) G sc_is_chart_value fun X W cdv A outer s H E eX eW tk hp hr => ?_)
    have hu := hr.units
    have hu65 : X.A.units + 65 < cLine := by have := hr.un; omega
    have hu1 : X.A.units + 1 < cLine := by have := hr.un; omega
    have nd := sc_is_chart_value.nd
    subst eX
    exact (b_cons (s_if (t_bool (w_or (t_not (t_val (d_call (ok_is_tuple c) bd_is_tuple (hr.mono (by decide)) rfl tk (a_cons (d_var (i := 0) rfl (Or.inl rfl)) (a_cons (d_gint (by rfl) c.v_SIZE) a_nil))))) (w_or1 (t_not (t_val (d_B (cD_all rfl) (by rfl) c.n_all bt_all (a_cons (d_lc rfl nd (i_seq (d_var (i := 0) rfl (Or.inl rfl))) (blkOk_by (own := [("row", 1)]) (by kernel_rfl)) (by decide) (fun s H C cl fp => (g_name nd (i := 1) rfl (Or.inl rfl) (Or.inr rfl))) (fun s H C cl fp => ts_nil) (fun s H C cl fp => (d_call (ok_is_tuple c) bd_is_tuple (hr.mono (by decide)) rfl takesW0 (a_cons (d_var (i := 1) rfl (Or.inl rfl)) (a_cons (d_gint (by rfl) c.v_SIZE) a_nil))))) a_nil))))))) (b_one (s_ret d_bl)) b_nil)
      (b_cons (s_if (t_not (t_val (d_B (cD_all rfl) (by rfl) c.n_all bt_all (a_cons (d_lc2 rfl nd (i_seq (d_var (i := 0) rfl (Or.inl rfl))) (blkOk_by (own := [("row", 1), ("item", 2)]) (by kernel_rfl)) (by decide) (by decide) (by decide) (fun s H C cl fp => (g_name nd (i := 1) rfl (Or.inl rfl) (Or.inr rfl))) (fun s H C cl fp => ts_nil) (fun s H C cl fp => (d_var (i := 1) rfl (Or.inl rfl))) (fun s H C cl fp => (g_name nd (i := 2) rfl (Or.inl rfl) (Or.inr rfl))) (fun s H C cl fp => ts_nil) (fun s H C cl fp => (d_call (ok_is_int c) bd_is_int (hr.mono (by decide)) rfl takesW0 (a_cons (d_var (i := 2) rfl (Or.inl rfl)) a_nil)))) a_nil)))) (b_one (s_ret d_bl)) b_nil)
      (b_one (s_ret (d_and (d_cmp (opD_ne hu) (d_call (ok_determinant c) bd_determinant (hr.mono (by decide)) rfl tk (a_cons (d_var (i := 0) rfl (Or.inl rfl)) a_nil)) d_int rfl) (d_one (d_call (ok_sees_something c) bd_sees_something (hr.mono (by decide)) rfl tk (a_cons (d_var (i := 0) rfl (Or.inl rfl)) a_nil))))))))

abbrev N_need_chart : List Str := ["thing"]
theorem sc_need_chart : FnScope N_need_chart ["thing"] (defScope st_need_chart) := ⟨rfl, rfl, rfl, by decide +kernel, rfl, by decide +kernel, by decide +kernel⟩
theorem bd_need_chart : BindOk "need_chart" st_need_chart ["thing"] := fun _ _ _ _ _ _ us hl => match us, hl with | [_], _ => rfl
noncomputable def b_need_chart : SM :=
      (sIf (bNot (bVal (mCall 1 m_is_chart_value (aCons (mVar 0) aNil)))) sBad sNil)
noncomputable def m_need_chart : FM := fnP N_need_chart.length b_need_chart
theorem ok_need_chart (c : Fx K mg) : FD P w K mg base "need_chart" st_need_chart ["thing"] 4 m_need_chart := by
    obtain ⟨f, fd, G⟩ := c.g_need_chart
    refine (fd_mk (k := 3) G sc_need_chart fun X W cdv A outer s H E eX eW tk hp hr => ?_)
    have hu := hr.units
    have hu65 : X.A.units + 65 < cLine := by have := hr.un; omega
    have hu1 : X.A.units + 1 < cLine := by have := hr.un; omega
    have nd := sc_need_chart.nd
    subst eX
    exact (b_one (s_if (t_not (t_val (d_call (ok_is_chart_value c) bd_is_chart_value (hr.mono (by decide)) rfl tk (a_cons (d_var (i := 0) rfl (Or.inl rfl)) a_nil)))) (b_one s_bad) b_nil))

abbrev N_numbers_of : List Str := ["rows", "triple"]
theorem sc_numbers_of : FnScope N_numbers_of ["rows", "triple"] (defScope st_numbers_of) := ⟨rfl, rfl, rfl, by decide +kernel, rfl, by decide +kernel, by decide +kernel⟩
theorem bd_numbers_of : BindOk "numbers_of" st_numbers_of ["rows", "triple"] := fun _ _ _ _ _ _ us hl => match us, hl with | [_, _], _ => rfl
noncomputable def b_numbers_of : SM :=
      (sRet (mTup (aCons (mCall 2 m_dot (aCons (mOp ixD (mVar 0) (mC (.int 0))) (aCons (mVar 1) aNil))) (aCons (mCall 2 m_dot (aCons (mOp ixD (mVar 0) (mC (.int 1))) (aCons (mVar 1) aNil))) (aCons (mCall 2 m_dot (aCons (mOp ixD (mVar 0) (mC (.int 2))) (aCons (mVar 1) aNil))) aNil)))))
noncomputable def m_numbers_of : FM := fnP N_numbers_of.length b_numbers_of
theorem ok_numbers_of (c : Fx K mg) : FD P w K mg base "numbers_of" st_numbers_of ["rows", "triple"] 2 m_numbers_of := by
    obtain ⟨f, fd, G⟩ := c.g_numbers_of
    refine (fd_mk (k := 1) G sc_numbers_of fun X W cdv A outer s H E eX eW tk hp hr => ?_)
    have hu := hr.units
    have hu65 : X.A.units + 65 < cLine := by have := hr.un; omega
    have hu1 : X.A.units + 1 < cLine := by have := hr.un; omega
    have nd := sc_numbers_of.nd
    subst eX
    exact (b_one (s_ret (d_tup (a_cons (d_call (ok_dot c) bd_dot (hr.mono (by decide)) rfl tk (a_cons (d_ix hu1 (d_var (i := 0) rfl (Or.inl rfl)) d_int (fun _ _ => rfl)) (a_cons (d_var (i := 1) rfl (Or.inl rfl)) a_nil))) (a_cons (d_call (ok_dot c) bd_dot (hr.mono (by decide)) rfl tk (a_cons (d_ix hu1 (d_var (i := 0) rfl (Or.inl rfl)) d_int (fun _ _ => rfl)) (a_cons (d_var (i := 1) rfl (Or.inl rfl)) a_nil))) (a_cons (d_call (ok_dot c) bd_dot (hr.mono (by decide)) rfl tk (a_cons (d_ix hu1 (d_var (i := 0) rfl (Or.inl rfl)) d_int (fun _ _ => rfl)) (a_cons (d_var (i := 1) rfl (Or.inl rfl)) a_nil))) a_nil))))))

abbrev N_sent_to : List Str := ["chart", "spot", "x", "y", "w"]
theorem sc_sent_to : FnScope N_sent_to ["chart", "spot"] (defScope st_sent_to) := ⟨rfl, rfl, rfl, by decide +kernel, rfl, by decide +kernel, by decide +kernel⟩
theorem bd_sent_to : BindOk "sent_to" st_sent_to ["chart", "spot"] := fun _ _ _ _ _ _ us hl => match us, hl with | [_, _], _ => rfl
noncomputable def b_sent_to : SM :=
      (sSeq (sAsg (mCall 2 m_numbers_of (aCons (mVar 0) (aCons (mVar 1) aNil))) (gT [(gN 2), (gN 3), (gN 4)]))
      (sRet (mIf (bVal (mOp gtD (mVar 4) (mC (.int 0)))) (mCall 3 m_lowest_spot (aCons (mVar 2) (aCons (mVar 3) (aCons (mVar 4) aNil)))) (mC .non))))
noncomputable def m_sent_to : FM := fnP N_sent_to.length b_sent_to
theorem ok_sent_to (c : Fx K mg) : FD P w K mg base "sent_to" st_sent_to ["chart", "spot"] 3 m_sent_to := by
    obtain ⟨f, fd, G⟩ := c.g_sent_to
    refine (fd_mk (k := 2) G sc_sent_to fun X W cdv A outer s H E eX eW tk hp hr => ?_)
    have hu := hr.units
    have hu65 : X.A.units + 65 < cLine := by have := hr.un; omega
    have hu1 : X.A.units + 1 < cLine := by have := hr.un; omega
    have nd := sc_sent_to.nd
    subst eX
    exact (b_cons (s_asg (d_call (ok_numbers_of c) bd_numbers_of (hr.mono (by decide)) rfl tk (a_cons (d_var (i := 0) rfl (Or.inl rfl)) (a_cons (d_var (i := 1) rfl (Or.inl rfl)) a_nil))) (g_tup rfl (gs_cons (g_name nd (i := 2) rfl (Or.inl rfl) (Or.inr rfl)) (gs_cons (g_name nd (i := 3) rfl (Or.inl rfl) (Or.inr rfl)) (gs_cons (g_name nd (i := 4) rfl (Or.inl rfl) (Or.inr rfl)) gs_nil)))))
      (b_one (s_ret (d_if (t_cmp opD_gt (d_var (i := 4) rfl (Or.inl rfl)) d_int rfl) (d_call (ok_lowest_spot c) bd_lowest_spot (hr.mono (by decide)) rfl tk (a_cons (d_var (i := 2) rfl (Or.inl rfl)) (a_cons (d_var (i := 3) rfl (Or.inl rfl)) (a_cons (d_var (i := 4) rfl (Or.inl rfl)) a_nil)))) d_non))))

abbrev N_parting_spot : List Str := ["one", "other", "a", "b", "c", "far", "x", "y", "spot"]
theorem sc_parting_spot : FnScope N_parting_spot ["one", "other"] (defScope st_parting_spot) := ⟨rfl, rfl, rfl, by decide +kernel, rfl, by decide +kernel, by decide +kernel⟩
theorem bd_parting_spot : BindOk "parting_spot" st_parting_spot ["one", "other"] := fun _ _ _ _ _ _ us hl => match us, hl with | [_, _], _ => rfl
noncomputable def b_parting_spot : SM :=
      (sSeq (sAsg (mOp ixD (mVar 0) (mC (.int 2))) (gT [(gN 2), (gN 3), (gN 4)]))
      (sSeq (sAsg (mOp addD (mOp addD (mOp addD (mB absD (aCons (mVar 2) aNil)) (mB absD (aCons (mVar 3) aNil))) (mB absD (aCons (mVar 4) aNil))) (mC (.int 1))) (gN 5))
      (sSeq (sFor (iSeq (mTup (aCons (mTup (aCons (mC (.int 0)) (aCons (mC (.int 0)) aNil))) (aCons (mTup (aCons (mC (.int 1)) (aCons (mC (.int 0)) aNil))) (aCons (mTup (aCons (mC (.int 0)) (aCons (mC (.int 1)) aNil))) (aCons (mTup (aCons (mC (.int 1)) (aCons (mC (.int 1)) aNil))) aNil)))))) (gT [(gN 6), (gN 7)]) (sSeq (sAsg (mCall 3 m_lowest_spot (aCons (mOp addD (mOp mulD (mVar 2) (mVar 5)) (mVar 6)) (aCons (mOp addD (mOp mulD (mVar 3) (mVar 5)) (mVar 7)) (aCons (mC (.int 1)) aNil)))) (gN 8))
      (sIf (bVal (mOp neD (mCall 2 m_sent_to (aCons (mVar 0) (aCons (mVar 8) aNil))) (mCall 2 m_sent_to (aCons (mVar 1) (aCons (mVar 8) aNil))))) (sRet (mVar 8)) sNil)))
      (sRet (mC .non)))))
noncomputable def m_parting_spot : FM := fnP N_parting_spot.length b_parting_spot
theorem ok_parting_spot (c : Fx K mg) : FD P w K mg base "parting_spot" st_parting_spot ["one", "other"] 4 m_parting_spot := by
    obtain ⟨f, fd, G⟩ := c.g_parting_spot
    refine (fd_mk (k := 3) G sc_parting_spot fun X W cdv A outer s H E eX eW tk hp hr => ?_)
    have hu := hr.units
    have hu65 : X.A.units + 65 < cLine := by have := hr.un; omega
    have hu1 : X.A.units + 1 < cLine := by have := hr.un; omega
    have nd := sc_parting_spot.nd
    subst eX
    exact (b_cons (s_asg (d_ix hu1 (d_var (i := 0) rfl (Or.inl rfl)) d_int (fun _ _ => rfl)) (g_tup rfl (gs_cons (g_name nd (i := 2) rfl (Or.inl rfl) (Or.inr rfl)) (gs_cons (g_name nd (i := 3) rfl (Or.inl rfl) (Or.inr rfl)) (gs_cons (g_name nd (i := 4) rfl (Or.inl rfl) (Or.inr rfl)) gs_nil)))))
      (b_cons (s_set nd (i := 5) rfl (Or.inl rfl) (Or.inr rfl) (d_bin opD_add (d_bin opD_add (d_bin opD_add (d_B (cD_abs) (by rfl) c.n_abs bt_abs (a_cons (d_var (i := 2) rfl (Or.inl rfl)) a_nil)) (d_B (cD_abs) (by rfl) c.n_abs bt_abs (a_cons (d_var (i := 3) rfl (Or.inl rfl)) a_nil))) (d_B (cD_abs) (by rfl) c.n_abs bt_abs (a_cons (d_var (i := 4) rfl (Or.inl rfl)) a_nil))) d_int))
      (b_cons (s_for hp rfl (i_seq (d_tup (a_cons (d_tup (a_cons d_int (a_cons d_int a_nil))) (a_cons (d_tup (a_cons d_int (a_cons d_int a_nil))) (a_cons (d_tup (a_cons d_int (a_cons d_int a_nil))) (a_cons (d_tup (a_cons d_int (a_cons d_int a_nil))) a_nil)))))) (g_tup rfl (gs_cons (g_name nd (i := 6) rfl (Or.inl rfl) (Or.inr rfl)) (gs_cons (g_name nd (i := 7) rfl (Or.inl rfl) (Or.inr rfl)) gs_nil))) (b_cons (s_set nd (i := 8) rfl (Or.inl rfl) (Or.inr rfl) (d_call (ok_lowest_spot c) bd_lowest_spot (hr.mono (by decide)) rfl tk (a_cons (d_bin opD_add (d_bin opD_mul (d_var (i := 2) rfl (Or.inl rfl)) (d_var (i := 5) rfl (Or.inl rfl))) (d_var (i := 6) rfl (Or.inl rfl))) (a_cons (d_bin opD_add (d_bin opD_mul (d_var (i := 3) rfl (Or.inl rfl)) (d_var (i := 5) rfl (Or.inl rfl))) (d_var (i := 7) rfl (Or.inl rfl))) (a_cons d_int a_nil)))))
      (b_one (s_if (t_cmp (opD_ne hu) (d_call (ok_sent_to c) bd_sent_to (hr.mono (by decide)) rfl tk (a_cons (d_var (i := 0) rfl (Or.inl rfl)) (a_cons (d_var (i := 8) rfl (Or.inl rfl)) a_nil))) (d_call (ok_sent_to c) bd_sent_to (hr.mono (by decide)) rfl tk (a_cons (d_var (i := 1) rfl (Or.inl rfl)) (a_cons (d_var (i := 8) rfl (Or.inl rfl)) a_nil))) rfl) (b_one (s_ret (d_var (i := 8) rfl (Or.inl rfl)))) b_nil))))
      (b_one (s_ret d_non)))))

abbrev N_judge_charts : List Str := ["one", "other", "spot"]
theorem sc_judge_charts : FnScope N_judge_charts ["one", "other"] (defScope st_judge_charts) := ⟨rfl, rfl, rfl, by decide +kernel, rfl, by decide +kernel, by decide +kernel⟩
theorem bd_judge_charts : BindOk "judge_charts" st_judge_charts ["one", "other"] := fun _ _ _ _ _ _ us hl => match us, hl with | [_, _], _ => rfl
noncomputable def b_judge_charts : SM :=
      (sSeq (sDrop (mCall 1 m_need_chart (aCons (mVar 0) aNil)))
      (sSeq (sDrop (mCall 1 m_need_chart (aCons (mVar 1) aNil)))
      (sSeq (sAsg (mCall 2 m_parting_spot (aCons (mVar 0) (aCons (mVar 1) aNil))) (gN 2))
      (sRet (mIf (bVal (mOp isD (mVar 2) (mC .non))) (mTup (aCons (mC (.str "alike")) aNil)) (mTup (aCons (mC (.str "parted")) (aCons (mVar 2) aNil))))))))
noncomputable def m_judge_charts : FM := fnP N_judge_charts.length b_judge_charts
theorem ok_judge_charts (c : Fx K mg) : FD P w K mg base "judge_charts" st_judge_charts ["one", "other"] 5 m_judge_charts := by
    obtain ⟨f, fd, G⟩ := c.g_judge_charts
    refine (fd_mk (k := 4) G sc_judge_charts fun X W cdv A outer s H E eX eW tk hp hr => ?_)
    have hu := hr.units
    have hu65 : X.A.units + 65 < cLine := by have := hr.un; omega
    have hu1 : X.A.units + 1 < cLine := by have := hr.un; omega
    have nd := sc_judge_charts.nd
    subst eX
    exact (b_cons (s_drop (d_call (ok_need_chart c) bd_need_chart (hr.mono (by decide)) rfl tk (a_cons (d_var (i := 0) rfl (Or.inl rfl)) a_nil)))
      (b_cons (s_drop (d_call (ok_need_chart c) bd_need_chart (hr.mono (by decide)) rfl tk (a_cons (d_var (i := 1) rfl (Or.inl rfl)) a_nil)))
      (b_cons (s_set nd (i := 2) rfl (Or.inl rfl) (Or.inr rfl) (d_call (ok_parting_spot c) bd_parting_spot (hr.mono (by decide)) rfl tk (a_cons (d_var (i := 0) rfl (Or.inl rfl)) (a_cons (d_var (i := 1) rfl (Or.inl rfl)) a_nil))))
      (b_one (s_ret (d_if (t_cmp opD_is (d_var (i := 2) rfl (Or.inl rfl)) d_non rfl) (d_tup (a_cons (d_gstr (by rfl) c.v_ALIKE) a_nil)) (d_tup (a_cons (d_gstr (by rfl) c.v_PARTED) (a_cons (d_var (i := 2) rfl (Or.inl rfl)) a_nil)))))))))

abbrev N_charts_holds : List Str := ["one", "other", "thing"]
theorem sc_charts_holds : FnScope N_charts_holds ["one", "other", "thing"] (defScope st_charts_holds) := ⟨rfl, rfl, rfl, by decide +kernel, rfl, by decide +kernel, by decide +kernel⟩
theorem bd_charts_holds : BindOk "charts_holds" st_charts_holds ["one", "other", "thing"] := fun _ _ _ _ _ _ us hl => match us, hl with | [_, _, _], _ => rfl
noncomputable def b_charts_holds : SM :=
      (sSeq (sDrop (mCall 1 m_need_chart (aCons (mVar 0) aNil)))
      (sSeq (sDrop (mCall 1 m_need_chart (aCons (mVar 1) aNil)))
      (sSeq (sIf (bOr (bNot (bVal (mB isiD (aCons (mVar 2) (aCons (mC (.ty "tuple")) aNil))))) (bOr (bVal (mOp eq0D (mVar 2) (mTup aNil))) (bNot (bVal (mCall 2 m_is_word (aCons (mOp ixD (mVar 2) (mC (.int 0))) (aCons (mTup (aCons (mC (.str "alike")) (aCons (mC (.str "parted")) aNil))) aNil))))))) (sRet (mC (.bl false))) sNil)
      (sSeq (sIf (bVal (mOp eqD (mOp ixD (mVar 2) (mC (.int 0))) (mC (.str "alike")))) (sRet (mAnd (mOp eqD (mB lenD (aCons (mVar 2) aNil)) (mC (.int 1))) (mOp isD (mCall 2 m_parting_spot (aCons (mVar 0) (aCons (mVar 1) aNil))) (mC .non)))) sNil)
      (sSeq (sIf (bOr (bVal (mOp neD (mB lenD (aCons (mVar 2) aNil)) (mC (.int 2)))) (bNot (bVal (mCall 1 m_is_spot_value (aCons (mOp ixD (mVar 2) (mC (.int 1))) aNil))))) (sRet (mC (.bl false))) sNil)
      (sRet (mOp neD (mCall 2 m_sent_to (aCons (mVar 0) (aCons (mOp ixD (mVar 2) (mC (.int 1))) aNil))) (mCall 2 m_sent_to (aCons (mVar 1) (aCons (mOp ixD (mVar 2) (mC (.int 1))) aNil))))))))))
noncomputable def m_charts_holds : FM := fnP N_charts_holds.length b_charts_holds
theorem ok_charts_holds (c : Fx K mg) : FD P w K mg base "charts_holds" st_charts_holds ["one", "other", "thing"] 5 m_charts_holds := by
    obtain ⟨f, fd, G⟩ := c.g_charts_holds
    refine (fd_mk (k := 4) G sc_charts_holds fun X W cdv A outer s H E eX eW tk hp hr => ?_)
    have hu := hr.units
    have hu65 : X.A.units + 65 < cLine := by have := hr.un; omega
    have hu1 : X.A.units + 1 < cLine := by have := hr.un; omega
    have nd := sc_charts_holds.nd
    subst eX
    exact (b_cons (s_drop (d_call (ok_need_chart c) bd_need_chart (hr.mono (by decide)) rfl tk (a_cons (d_var (i := 0) rfl (Or.inl rfl)) a_nil)))
      (b_cons (s_drop (d_call (ok_need_chart c) bd_need_chart (hr.mono (by decide)) rfl tk (a_cons (d_var (i := 1) rfl (Or.inl rfl)) a_nil)))
      (b_cons (s_if (t_bool (w_or (t_not (t_val (d_B (cD_isi) (by rfl) c.n_isinstance bt_isinstance (a_cons (d_var (i := 2) rfl (Or.inl rfl)) (a_cons (d_ty (by rfl) c.n_tuple bt_tuple) a_nil))))) (w_or (t_cmp (opD_eq0 hu) (d_var (i := 2) rfl (Or.inl rfl)) (d_tup a_nil) rfl) (w_or1 (t_not (t_val (d_call (ok_is_word c) bd_is_word (hr.mono (by decide)) rfl tk (a_cons (d_ix hu1 (d_var (i := 2) rfl (Or.inl rfl)) d_int (fun _ _ => rfl)) (a_cons (d_tup (a_cons (d_gstr (by rfl) c.v_ALIKE) (a_cons (d_gstr (by rfl) c.v_PARTED) a_nil))) a_nil))))))))) (b_one (s_ret d_bl)) b_nil)
      (b_cons (s_if (t_cmp (opD_eq hu) (d_ix hu1 (d_var (i := 2) rfl (Or.inl rfl)) d_int (fun _ _ => rfl)) (d_gstr (by rfl) c.v_ALIKE) rfl) (b_one (s_ret (d_and (d_cmp (opD_eq hu) (d_B (cD_len) (by rfl) c.n_len bt_len (a_cons (d_var (i := 2) rfl (Or.inl rfl)) a_nil)) d_int rfl) (d_one (d_cmp opD_is (d_call (ok_parting_spot c) bd_parting_spot (hr.mono (by decide)) rfl tk (a_cons (d_var (i := 0) rfl (Or.inl rfl)) (a_cons (d_var (i := 1) rfl (Or.inl rfl)) a_nil))) d_non rfl))))) b_nil)
      (b_cons (s_if (t_bool (w_or (t_cmp (opD_ne hu) (d_B (cD_len) (by rfl) c.n_len bt_len (a_cons (d_var (i := 2) rfl (Or.inl rfl)) a_nil)) d_int rfl) (w_or1 (t_not (t_val (d_call (ok_is_spot_value c) bd_is_spot_value (hr.mono (by decide)) rfl tk (a_cons (d_ix hu1 (d_var (i := 2) rfl (Or.inl rfl)) d_int (fun _ _ => rfl)) a_nil))))))) (b_one (s_ret d_bl)) b_nil)
      (b_one (s_ret (d_cmp (opD_ne hu) (d_call (ok_sent_to c) bd_sent_to (hr.mono (by decide)) rfl tk (a_cons (d_var (i := 0) rfl (Or.inl rfl)) (a_cons (d_ix hu1 (d_var (i := 2) rfl (Or.inl rfl)) d_int (fun _ _ => rfl)) a_nil))) (d_call (ok_sent_to c) bd_sent_to (hr.mono (by decide)) rfl tk (a_cons (d_var (i := 1) rfl (Or.inl rfl)) (a_cons (d_ix hu1 (d_var (i := 2) rfl (Or.inl rfl)) d_int (fun _ _ => rfl)) a_nil))) rfl))))))))

abbrev N__law_deck : List Str := ["script", "mixed", "cell"]
theorem sc__law_deck : FnScope N__law_deck ["script"] (defScope st__law_deck) := ⟨rfl, rfl, rfl, by decide +kernel, rfl, by decide +kernel, by decide +kernel⟩
theorem bd__law_deck : BindOk "_law_deck" st__law_deck ["script"] := fun _ _ _ _ _ _ us hl => match us, hl with | [_], _ => rfl
noncomputable def b__law_deck : SM :=
      (sSeq (sAsg (mC (.int 15374310)) (gN 1))
      (sSeq (sFor (iSeq (mSl (mVar 0) oNone (oSome (mC (.int 63))))) (gN 2) (sAsg (mOp modD (mB intfD (aCons (mOp addD (mOp addD (mOp mulD (mVar 1) (mC (.int 40692))) (mOp modD (mB intfD (aCons (mVar 2) aNil)) (mC (.int 2147483563)))) (mC (.int 31))) aNil)) (mC (.int 2147483629))) (gN 1)))
      (sRet (mDict (pCons (mC (.str "left")) (mRevN (mLc (iSeq (mSl (mVar 0) oNone (oSome (mC (.int 63))))) (gN 2) bYes (mB intfD (aCons (mVar 2) aNil)) [2])) (pCons (mC (.str "mixed")) (mVar 1) (pCons (mC (.str "draws")) (mC (.int 0)) pNil)))))))
noncomputable def m__law_deck : FM := fnP N__law_deck.length b__law_deck
theorem ok__law_deck (c : Fx K mg) : FD P w K mg base "_law_deck" st__law_deck ["script"] 1 m__law_deck := by
    obtain ⟨f, fd, G⟩ := c.g__law_deck
    refine (fd_mk (k := 0) G sc__law_deck fun X W cdv A outer s H E eX eW tk hp hr => ?_)
    have hu := hr.units
    have hu65 : X.A.units + 65 < cLine := by have := hr.un; omega
    have hu1 : X.A.units + 1 < cLine := by have := hr.un; omega
    have nd := sc__law_deck.nd
    subst eX
    exact (b_cons (s_set nd (i := 1) rfl (Or.inl rfl) (Or.inr rfl) d_int)
      (b_cons (s_for hp rfl (i_seq (d_sl (d_var (i := 0) rfl (Or.inl rfl)) o_none (o_some d_int))) (g_name nd (i := 2) rfl (Or.inl rfl) (Or.inr rfl)) (b_one (s_set nd (i := 1) rfl (Or.inl rfl) (Or.inr rfl) (d_bin opD_mod (d_Ty (cD_int) (by rfl) c.n_int bt_int (a_cons (d_bin opD_add (d_bin opD_add (d_bin opD_mul (d_var (i := 1) rfl (Or.inl rfl)) d_int) (d_bin opD_mod (d_Ty (cD_int) (by rfl) c.n_int bt_int (a_cons (d_var (i := 2) rfl (Or.inl rfl)) a_nil)) d_int)) d_int) a_nil)) d_int))))
      (b_one (s_ret (d_dict (p_cons d_str (d_revN (d_lc rfl nd (i_seq (d_sl (d_var (i := 0) rfl (Or.inl rfl)) o_none (o_some d_int))) (blkOk_by (own := [("cell", 2)]) (by kernel_rfl)) (by decide) (fun s H C cl fp => (g_name nd (i := 2) rfl (Or.inl rfl) (Or.inr rfl))) (fun s H C cl fp => ts_nil) (fun s H C cl fp => (d_Ty (cD_int) (by rfl) c.n_int bt_int (a_cons (d_var (i := 2) rfl (Or.inl rfl)) a_nil))))) (p_cons d_str (d_var (i := 1) rfl (Or.inl rfl)) (p_cons d_str d_int p_nil))))))))

abbrev N__law_draw : List Str := ["deck", "many", "figure", "cell"]
theorem sc__law_draw : FnScope N__law_draw ["deck", "many"] (defScope st__law_draw) := ⟨rfl, rfl, rfl, by decide +kernel, rfl, by decide +kernel, by decide +kernel⟩
theorem bd__law_draw : BindOk "_law_draw" st__law_draw ["deck", "many"] := fun _ _ _ _ _ _ us hl => match us, hl with | [_, _], _ => rfl
noncomputable def b__law_draw : SM :=
      (sSeq (sAsg (mOp addD (mOp ixD (mVar 0) (mC (.str "draws"))) (mC (.int 1))) (gSet (mVar 0) (mC (.str "draws"))))
      (sSeq (sAsg (mOp addD (mOp ixD (mVar 0) (mC (.str "mixed"))) (mOp mulD (mC (.int 47425)) (mOp ixD (mVar 0) (mC (.str "draws"))))) (gN 2))
      (sSeq (sIf (bVal (mOp ne0D (mOp ixD (mVar 0) (mC (.str "left"))) (mLst aNil))) (sSeq (sAsg (mM "list" popD (mOp ixD (mVar 0) (mC (.str "left"))) aNil) (gN 3))
      (sSeq (sIf (bVal (mOp geD (mVar 3) (mOp powD (mC (.int 10)) (mC (.int 18))))) (sSeq (sDrop (mM "list" appD (mOp ixD (mVar 0) (mC (.str "left"))) (aCons (mOp fdivD (mVar 3) (mB max2D (aCons (mC (.int 2)) (aCons (mVar 1) aNil)))) aNil)))
      (sRet (mOp modD (mB intfD (aCons (mVar 3) aNil)) (mVar 1)))) sNil)
      (sAsg (mOp addD (mVar 2) (mOp modD (mB intfD (aCons (mVar 3) aNil)) (mC (.int 2147483563)))) (gN 2)))) sNil)
      (sSeq (sAsg (mOp modD (mB intfD (aCons (mOp addD (mOp mulD (mVar 2) (mC (.int 39373))) (mC (.int 43))) aNil)) (mC (.int 2147483647))) (gN 2))
      (sSeq (sAsg (mOp modD (mB intfD (aCons (mOp addD (mOp addD (mOp mulD (mVar 2) (mVar 2)) (mOp mulD (mC (.int 53881)) (mOp ixD (mVar 0) (mC (.str "draws"))))) (mC (.int 17))) aNil)) (mC (.int 2147483587))) (gN 2))
      (sSeq (sAsg (mOp modD (mB intfD (aCons (mOp mulD (mVar 2) (mC (.int 48271))) aNil)) (mC (.int 2147483629))) (gN 2))
      (sRet (mOp modD (mB intfD (aCons (mOp fdivD (mVar 2) (mC (.int 64))) aNil)) (mVar 1)))))))))
noncomputable def m__law_draw : FM := fnP N__law_draw.length b__law_draw
theorem ok__law_draw (c : Fx K mg) : FD P w K mg base "_law_draw" st__law_draw ["deck", "many"] 1 m__law_draw := by
    obtain ⟨f, fd, G⟩ := c.g__law_draw
    refine (fd_mk (k := 0) G sc__law_draw fun X W cdv A outer s H E eX eW tk hp hr => ?_)
    have hu := hr.units
    have hu65 : X.A.units + 65 < cLine := by have := hr.un; omega
    have hu1 : X.A.units + 1 < cLine := by have := hr.un; omega
    have nd := sc__law_draw.nd
    subst eX
    exact (b_cons (s_asg (d_bin opD_add (d_ix hu1 (d_var (i := 0) rfl (Or.inl rfl)) d_str (fun _ _ => rfl)) d_int) (g_set hu1 (d_var (i := 0) rfl (Or.inl rfl)) d_str))
      (b_cons (s_set nd (i := 2) rfl (Or.inl rfl) (Or.inr rfl) (d_bin opD_add (d_ix hu1 (d_var (i := 0) rfl (Or.inl rfl)) d_str (fun _ _ => rfl)) (d_bin opD_mul d_int (d_ix hu1 (d_var (i := 0) rfl (Or.inl rfl)) d_str (fun _ _ => rfl)))))
      (b_cons (s_if (t_cmp (opD_ne0 hu) (d_ix hu1 (d_var (i := 0) rfl (Or.inl rfl)) d_str (fun _ _ => rfl)) (d_lst a_nil) rfl) (b_cons (s_set nd (i := 3) rfl (Or.inl rfl) (Or.inr rfl) (d_bm0 PySem.F.plainAttrs_list PySem.F.slot_list_pop PySem.F.type_list_pop mD_pop (d_ix hu1 (d_var (i := 0) rfl (Or.inl rfl)) d_str (fun _ _ => rfl))))
      (b_cons (s_if (t_cmp opD_ge (d_var (i := 3) rfl (Or.inl rfl)) (d_bin opD_pow d_int d_int) rfl) (b_cons (s_drop (d_bm PySem.F.plainAttrs_list PySem.F.slot_list_append PySem.F.type_list_append mD_app (d_ix hu1 (d_var (i := 0) rfl (Or.inl rfl)) d_str (fun _ _ => rfl)) (a_cons (d_bin opD_fdiv (d_var (i := 3) rfl (Or.inl rfl)) (d_B (cD_max2 rfl) (by rfl) c.n_max bt_max (a_cons d_int (a_cons (d_var (i := 1) rfl (Or.inl rfl)) a_nil)))) a_nil)))
      (b_one (s_ret (d_bin opD_mod (d_Ty (cD_int) (by rfl) c.n_int bt_int (a_cons (d_var (i := 3) rfl (Or.inl rfl)) a_nil)) (d_var (i := 1) rfl (Or.inl rfl)))))) b_nil)
      (b_one (s_set nd (i := 2) rfl (Or.inl rfl) (Or.inr rfl) (d_bin opD_add (d_var (i := 2) rfl (Or.inl rfl)) (d_bin opD_mod (d_Ty (cD_int) (by rfl) c.n_int bt_int (a_cons (d_var (i := 3) rfl (Or.inl rfl)) a_nil)) d_int)))))) b_nil)
      (b_cons (s_set nd (i := 2) rfl (Or.inl rfl) (Or.inr rfl) (d_bin opD_mod (d_Ty (cD_int) (by rfl) c.n_int bt_int (a_cons (d_bin opD_add (d_bin opD_mul (d_var (i := 2) rfl (Or.inl rfl)) d_int) d_int) a_nil)) d_int))
      (b_cons (s_set nd (i := 2) rfl (Or.inl rfl) (Or.inr rfl) (d_bin opD_mod (d_Ty (cD_int) (by rfl) c.n_int bt_int (a_cons (d_bin opD_add (d_bin opD_add (d_bin opD_mul (d_var (i := 2) rfl (Or.inl rfl)) (d_var (i := 2) rfl (Or.inl rfl))) (d_bin opD_mul d_int (d_ix hu1 (d_var (i := 0) rfl (Or.inl rfl)) d_str (fun _ _ => rfl)))) d_int) a_nil)) d_int))
      (b_cons (s_set nd (i := 2) rfl (Or.inl rfl) (Or.inr rfl) (d_bin opD_mod (d_Ty (cD_int) (by rfl) c.n_int bt_int (a_cons (d_bin opD_mul (d_var (i := 2) rfl (Or.inl rfl)) d_int) a_nil)) d_int))
      (b_one (s_ret (d_bin opD_mod (d_Ty (cD_int) (by rfl) c.n_int bt_int (a_cons (d_bin opD_fdiv (d_var (i := 2) rfl (Or.inl rfl)) d_int) a_nil)) (d_var (i := 1) rfl (Or.inl rfl)))))))))))

abbrev N__law_pick : List Str := ["deck", "some"]
theorem sc__law_pick : FnScope N__law_pick ["deck", "some"] (defScope st__law_pick) := ⟨rfl, rfl, rfl, by decide +kernel, rfl, by decide +kernel, by decide +kernel⟩
theorem bd__law_pick : BindOk "_law_pick" st__law_pick ["deck", "some"] := fun _ _ _ _ _ _ us hl => match us, hl with | [_, _], _ => rfl
noncomputable def b__law_pick : SM :=
      (sRet (mOp ixD (mVar 1) (mCall 2 m__law_draw (aCons (mVar 0) (aCons (mB lenD (aCons (mVar 1) aNil)) aNil)))))
noncomputable def m__law_pick : FM := fnP N__law_pick.length b__law_pick
theorem ok__law_pick (c : Fx K mg) : FD P w K mg base "_law_pick" st__law_pick ["deck", "some"] 2 m__law_pick := by
    obtain ⟨f, fd, G⟩ := c.g__law_pick
    refine (fd_mk (k := 1) G sc__law_pick fun X W cdv A outer s H E eX eW tk hp hr => ?_)
    have hu := hr.units
    have hu65 : X.A.units + 65 < cLine := by have := hr.un; omega
    have hu1 : X.A.units + 1 < cLine := by have := hr.un; omega
    have nd := sc__law_pick.nd
    subst eX
    exact (b_one (s_ret (d_ix hu1 (d_var (i := 1) rfl (Or.inl rfl)) (d_call (ok__law_draw c) bd__law_draw (hr.mono (by decide)) rfl tk (a_cons (d_var (i := 0) rfl (Or.inl rfl)) (a_cons (d_B (cD_len) (by rfl) c.n_len bt_len (a_cons (d_var (i := 1) rfl (Or.inl rfl)) a_nil)) a_nil))) (fun _ _ => rfl))))

abbrev N__law_shuffled : List Str := ["deck", "some", "left", "found", "go"]
theorem sc__law_shuffled : FnScope N__law_shuffled ["deck", "some"] (defScope st__law_shuffled) := ⟨rfl, rfl, rfl, by decide +kernel, rfl, by decide +kernel, by decide +kernel⟩
theorem bd__law_shuffled : BindOk "_law_shuffled" st__law_shuffled ["deck", "some"] := fun _ _ _ _ _ _ us hl => match us, hl with | [_, _], _ => rfl
noncomputable def b__law_shuffled : SM :=
      (sSeq (sPar [2, 3] (aCons (mListN (aCons (mVar 1) aNil)) (aCons (mNew aNil) aNil)))
      (sSeq (sFor (iRng1 (aCons (mB lenD (aCons (mVar 1) aNil)) aNil)) (gN 4) (sDrop (mM "list" appD (mVar 3) (aCons (mM "list" popD (mVar 2) (aCons (mCall 2 m__law_draw (aCons (mVar 0) (aCons (mB lenD (aCons (mVar 2) aNil)) aNil))) aNil)) aNil))))
      (sRet (mVar 3))))
noncomputable def m__law_shuffled : FM := (fun ds S => gcF S (fnP N__law_shuffled.length b__law_shuffled ds S))
theorem ok__law_shuffled (c : Fx K mg) : FD P w K mg base "_law_shuffled" st__law_shuffled ["deck", "some"] 2 m__law_shuffled := by
    obtain ⟨f, fd, G⟩ := c.g__law_shuffled
    refine (fd_mk (k := 1) G sc__law_shuffled fun X W cdv A outer s H E eX eW tk hp hr => ?_).gcF
    have hu := hr.units
    have hu65 : X.A.units + 65 < cLine := by have := hr.un; omega
    have hu1 : X.A.units + 1 < cLine := by have := hr.un; omega
    have nd := sc__law_shuffled.nd
    subst eX
    exact (b_cons (s_par2 (i := 2) (j := 3) rfl nd rfl rfl (by decide) rfl rfl (a_cons (d_listN (by rfl) c.n_list (a_cons (d_var (i := 1) rfl (Or.inl rfl)) a_nil)) (a_cons (d_new a_nil) a_nil)))
      (b_cons (s_for hp rfl (i_rng1 (by rfl) c.n_range (a_cons (d_B (cD_len) (by rfl) c.n_len bt_len (a_cons (d_var (i := 1) rfl (Or.inl rfl)) a_nil)) a_nil)) (g_name nd (i := 4) rfl (Or.inl rfl) (Or.inr rfl)) (b_one (s_drop (d_bm PySem.F.plainAttrs_list PySem.F.slot_list_append PySem.F.type_list_append mD_app (d_var (i := 3) rfl (Or.inl rfl)) (a_cons (d_bm PySem.F.plainAttrs_list PySem.F.slot_list_pop PySem.F.type_list_pop mD_pop (d_var (i := 2) rfl (Or.inl rfl)) (a_cons (d_call (ok__law_draw c) bd__law_draw (hr.mono (by decide)) rfl tk (a_cons (d_var (i := 0) rfl (Or.inl rfl)) (a_cons (d_B (cD_len) (by rfl) c.n_len bt_len (a_cons (d_var (i := 2) rfl (Or.inl rfl)) a_nil)) a_nil))) a_nil)) a_nil)))))
      (b_one (s_ret (d_var (i := 3) rfl (Or.inl rfl))))))

abbrev N__law_far : List Str := ["deck", "many"]
theorem sc__law_far : FnScope N__law_far ["deck", "many"] (defScope st__law_far) := ⟨rfl, rfl, rfl, by decide +kernel, rfl, by decide +kernel, by decide +kernel⟩
theorem bd__law_far : BindOk "_law_far" st__law_far ["deck", "many"] := fun _ _ _ _ _ _ us hl => match us, hl with | [_, _], _ => rfl
noncomputable def b__law_far : SM :=
      (sRet (mOp modD (mB intfD (aCons (mOp addD (mOp addD (mOp shlD (mCall 2 m__law_draw (aCons (mVar 0) (aCons (mC (.int 1048576)) aNil))) (mC (.int 40))) (mOp shlD (mCall 2 m__law_draw (aCons (mVar 0) (aCons (mC (.int 1048576)) aNil))) (mC (.int 20)))) (mCall 2 m__law_draw (aCons (mVar 0) (aCons (mC (.int 1048576)) aNil)))) aNil)) (mVar 1)))
noncomputable def m__law_far : FM := fnP N__law_far.length b__law_far
theorem ok__law_far (c : Fx K mg) : FD P w K mg base "_law_far" st__law_far ["deck", "many"] 2 m__law_far := by
    obtain ⟨f, fd, G⟩ := c.g__law_far
    refine (fd_mk (k := 1) G sc__law_far fun X W cdv A outer s H E eX eW tk hp hr => ?_)
    have hu := hr.units
    have hu65 : X.A.units + 65 < cLine := by have := hr.un; omega
    have hu1 : X.A.units + 1 < cLine := by have := hr.un; omega
    have nd := sc__law_far.nd
    subst eX
    exact (b_one (s_ret (d_bin opD_mod (d_Ty (cD_int) (by rfl) c.n_int bt_int (a_cons (d_bin opD_add (d_bin opD_add (d_bin opD_shl (d_call (ok__law_draw c) bd__law_draw (hr.mono (by decide)) rfl tk (a_cons (d_var (i := 0) rfl (Or.inl rfl)) (a_cons d_int a_nil))) d_int) (d_bin opD_shl (d_call (ok__law_draw c) bd__law_draw (hr.mono (by decide)) rfl tk (a_cons (d_var (i := 0) rfl (Or.inl rfl)) (a_cons d_int a_nil))) d_int)) (d_call (ok__law_draw c) bd__law_draw (hr.mono (by decide)) rfl tk (a_cons (d_var (i := 0) rfl (Or.inl rfl)) (a_cons d_int a_nil)))) a_nil)) (d_var (i := 1) rfl (Or.inl rfl)))))

abbrev N__law_is_bool : List Str := ["told", "due"]
theorem sc__law_is_bool : FnScope N__law_is_bool ["told", "due"] (defScope st__law_is_bool) := ⟨rfl, rfl, rfl, by decide +kernel, rfl, by decide +kernel, by decide +kernel⟩
theorem bd__law_is_bool : BindOk "_law_is_bool" st__law_is_bool ["told", "due"] := fun _ _ _ _ _ _ us hl => match us, hl with | [_, _], _ => rfl
noncomputable def b__law_is_bool : SM :=
      (sRet (mIf (bVal (mVar 1)) (mOp isD (mVar 0) (mC (.bl true))) (mOp isD (mVar 0) (mC (.bl false)))))
noncomputable def m__law_is_bool : FM := fnP N__law_is_bool.length b__law_is_bool
theorem ok__law_is_bool (c : Fx K mg) : FD P w K mg base "_law_is_bool" st__law_is_bool ["told", "due"] 1 m__law_is_bool := by
    obtain ⟨f, fd, G⟩ := c.g__law_is_bool
    refine (fd_mk (k := 0) G sc__law_is_bool fun X W cdv A outer s H E eX eW tk hp hr => ?_)
    have hu := hr.units
    have hu65 : X.A.units + 65 < cLine := by have := hr.un; omega
    have hu1 : X.A.units + 1 < cLine := by have := hr.un; omega
    have nd := sc__law_is_bool.nd
    subst eX
    exact (b_one (s_ret (d_if (t_val (d_var (i := 1) rfl (Or.inl rfl))) (d_cmp opD_is (d_var (i := 0) rfl (Or.inl rfl)) d_bl rfl) (d_cmp opD_is (d_var (i := 0) rfl (Or.inl rfl)) d_bl rfl))))

abbrev N__law_gcd : List Str := ["one", "other"]
theorem sc__law_gcd : FnScope N__law_gcd ["one", "other"] (defScope st__law_gcd) := ⟨rfl, rfl, rfl, by decide +kernel, rfl, by decide +kernel, by decide +kernel⟩
theorem bd__law_gcd : BindOk "_law_gcd" st__law_gcd ["one", "other"] := fun _ _ _ _ _ _ us hl => match us, hl with | [_, _], _ => rfl
noncomputable def b__law_gcd : SM :=
      (sSeq (sPar [0, 1] (aCons (mB absD (aCons (mVar 0) aNil)) (aCons (mB absD (aCons (mVar 1) aNil)) aNil)))
      (sSeq (sWhile (bVal (mOp gtD (mVar 1) (mC (.int 0)))) (sPar [0, 1] (aCons (mVar 1) (aCons (mOp modD (mB intfD (aCons (mVar 0) aNil)) (mVar 1)) aNil))))
      (sRet (mVar 0))))
noncomputable def m__law_gcd : FM := fnP N__law_gcd.length b__law_gcd
theorem ok__law_gcd (c : Fx K mg) : FD P w K mg base "_law_gcd" st__law_gcd ["one", "other"] 1 m__law_gcd := by
    obtain ⟨f, fd, G⟩ := c.g__law_gcd
    refine (fd_mk (k := 0) G sc__law_gcd fun X W cdv A outer s H E eX eW tk hp hr => ?_)
    have hu := hr.units
    have hu65 : X.A.units + 65 < cLine := by have := hr.un; omega
    have hu1 : X.A.units + 1 < cLine := by have := hr.un; omega
    have nd := sc__law_gcd.nd
    subst eX
    exact (b_cons (s_par2 (i := 0) (j := 1) rfl nd rfl rfl (by decide) rfl rfl (a_cons (d_B (cD_abs) (by rfl) c.n_abs bt_abs (a_cons (d_var (i := 0) rfl (Or.inl rfl)) a_nil)) (a_cons (d_B (cD_abs) (by rfl) c.n_abs bt_abs (a_cons (d_var (i := 1) rfl (Or.inl rfl)) a_nil)) a_nil)))
      (b_cons (s_while hp (t_cmp opD_gt (d_var (i := 1) rfl (Or.inl rfl)) d_int rfl) (b_one (s_par2 (i := 0) (j := 1) rfl nd rfl rfl (by decide) rfl rfl (a_cons (d_var (i := 1) rfl (Or.inl rfl)) (a_cons (d_bin opD_mod (d_Ty (cD_int) (by rfl) c.n_int bt_int (a_cons (d_var (i := 0) rfl (Or.inl rfl)) a_nil)) (d_var (i := 1) rfl (Or.inl rfl))) a_nil)))))
      (b_one (s_ret (d_var (i := 0) rfl (Or.inl rfl))))))

abbrev N__law_spot : List Str := ["x", "y", "w", "by"]
theorem sc__law_spot : FnScope N__law_spot ["x", "y", "w"] (defScope st__law_spot) := ⟨rfl, rfl, rfl, by decide +kernel, rfl, by decide +kernel, by decide +kernel⟩
theorem bd__law_spot : BindOk "_law_spot" st__law_spot ["x", "y", "w"] := fun _ _ _ _ _ _ us hl => match us, hl with | [_, _, _], _ => rfl
noncomputable def b__law_spot : SM :=
      (sSeq (sIf (bVal (mOp ltD (mVar 2) (mC (.int 0)))) (sPar [0, 1, 2] (aCons (mUn negD (mVar 0)) (aCons (mUn negD (mVar 1)) (aCons (mUn negD (mVar 2)) aNil)))) sNil)
      (sSeq (sAsg (mCall 2 m__law_gcd (aCons (mCall 2 m__law_gcd (aCons (mVar 0) (aCons (mVar 1) aNil))) (aCons (mVar 2) aNil))) (gN 3))
      (sRet (mTup (aCons (mOp fdivD (mVar 0) (mVar 3)) (aCons (mOp fdivD (mVar 1) (mVar 3)) (aCons (mOp fdivD (mVar 2) (mVar 3)) aNil)))))))
noncomputable def m__law_spot : FM := fnP N__law_spot.length b__law_spot
theorem ok__law_spot (c : Fx K mg) : FD P w K mg base "_law_spot" st__law_spot ["x", "y", "w"] 2 m__law_spot := by
    obtain ⟨f, fd, G⟩ := c.g__law_spot
    refine (fd_mk (k := 1) G sc__law_spot fun X W cdv A outer s H E eX eW tk hp hr => ?_)
    have hu := hr.units
    have hu65 : X.A.units + 65 < cLine := by have := hr.un; omega
    have hu1 : X.A.units + 1 < cLine := by have := hr.un; omega
    have nd := sc__law_spot.nd
    subst eX
    exact (b_cons (s_if (t_cmp opD_lt (d_var (i := 2) rfl (Or.inl rfl)) d_int rfl) (b_one (s_par3 (i := 0) (j := 1) (l := 2) rfl nd rfl rfl rfl (by decide) (by decide) (by decide) rfl rfl rfl (a_cons (d_un unD_neg (d_var (i := 0) rfl (Or.inl rfl))) (a_cons (d_un unD_neg (d_var (i := 1) rfl (Or.inl rfl))) (a_cons (d_un unD_neg (d_var (i := 2) rfl (Or.inl rfl))) a_nil))))) b_nil)
      (b_cons (s_set nd (i := 3) rfl (Or.inl rfl) (Or.inr rfl) (d_call (ok__law_gcd c) bd__law_gcd (hr.mono (by decide)) rfl tk (a_cons (d_call (ok__law_gcd c) bd__law_gcd (hr.mono (by decide)) rfl tk (a_cons (d_var (i := 0) rfl (Or.inl rfl)) (a_cons (d_var (i := 1) rfl (Or.inl rfl)) a_nil))) (a_cons (d_var (i := 2) rfl (Or.inl rfl)) a_nil))))
      (b_one (s_ret (d_tup (a_cons (d_bin opD_fdiv (d_var (i := 0) rfl (Or.inl rfl)) (d_var (i := 3) rfl (Or.inl rfl))) (a_cons (d_bin opD_fdiv (d_var (i := 1) rfl (Or.inl rfl)) (d_var (i := 3) rfl (Or.inl rfl))) (a_cons (d_bin opD_fdiv (d_var (i := 2) rfl (Or.inl rfl)) (d_var (i := 3) rfl (Or.inl rfl))) a_nil))))))))

abbrev N__law_is_int : List Str := ["thing"]
theorem sc__law_is_int : FnScope N__law_is_int ["thing"] (defScope st__law_is_int) := ⟨rfl, rfl, rfl, by decide +kernel, rfl, by decide +kernel, by decide +kernel⟩
theorem bd__law_is_int : BindOk "_law_is_int" st__law_is_int ["thing"] := fun _ _ _ _ _ _ us hl => match us, hl with | [_], _ => rfl
noncomputable def b__law_is_int : SM :=
      (sRet (mAnd (mB isiD (aCons (mVar 0) (aCons (mC (.ty "int")) aNil))) (mNot (mB isiD (aCons (mVar 0) (aCons (mC (.ty "bool")) aNil))))))
noncomputable def m__law_is_int : FM := fnP N__law_is_int.length b__law_is_int
theorem ok__law_is_int (c : Fx K mg) : FD P w K mg base "_law_is_int" st__law_is_int ["thing"] 1 m__law_is_int := by
    obtain ⟨f, fd, G⟩ := c.g__law_is_int
    refine (fd_mk (k := 0) G sc__law_is_int fun X W cdv A outer s H E eX eW tk hp hr => ?_)
    have hu := hr.units
    have hu65 : X.A.units + 65 < cLine := by have := hr.un; omega
    have hu1 : X.A.units + 1 < cLine := by have := hr.un; omega
    have nd := sc__law_is_int.nd
    subst eX
    exact (b_one (s_ret (d_and (d_B (cD_isi) (by rfl) c.n_isinstance bt_isinstance (a_cons (d_var (i := 0) rfl (Or.inl rfl)) (a_cons (d_ty (by rfl) c.n_int bt_int) a_nil))) (d_one (d_not (d_B (cD_isi) (by rfl) c.n_isinstance bt_isinstance (a_cons (d_var (i := 0) rfl (Or.inl rfl)) (a_cons (d_ty (by rfl) c.n_bool bt_bool) a_nil))))))))

abbrev N__law_is_spot : List Str := ["thing", "it"]
theorem sc__law_is_spot : FnScope N__law_is_spot ["thing"] (defScope st__law_is_spot) := ⟨rfl, rfl, rfl, by decide +kernel, rfl, by decide +kernel, by decide +kernel⟩
theorem bd__law_is_spot : BindOk "_law_is_spot" st__law_is_spot ["thing"] := fun _ _ _ _ _ _ us hl => match us, hl with | [_], _ => rfl
noncomputable def b__law_is_spot : SM :=
      (sSeq (sIf (bOr (bNot (bVal (mB isiD (aCons (mVar 0) (aCons (mC (.ty "tuple")) aNil))))) (bOr (bVal (mOp neD (mB lenD (aCons (mVar 0) aNil)) (mC (.int 3)))) (bVal (mOp ne0D (mLc (iSeq (mVar 0)) (gN 1) (bNot (bVal (mCall 1 m__law_is_int (aCons (mVar 1) aNil)))) (mC (.int 1)) [1]) (mLst aNil))))) (sRet (mC (.bl false))) sNil)
      (sRet (mAnd (mOp geD (mOp ixD (mVar 0) (mC (.int 2))) (mC (.int 1))) (mOp eqD (mCall 2 m__law_gcd (aCons (mCall 2 m__law_gcd (aCons (mOp ixD (mVar 0) (mC (.int 0))) (aCons (mOp ixD (mVar 0) (mC (.int 1))) aNil))) (aCons (mOp ixD (mVar 0) (mC (.int 2))) aNil))) (mC (.int 1))))))
noncomputable def m__law_is_spot : FM := fnP N__law_is_spot.length b__law_is_spot
theorem ok__law_is_spot (c : Fx K mg) : FD P w K mg base "_law_is_spot" st__law_is_spot ["thing"] 2 m__law_is_spot := by
    obtain ⟨f, fd, G⟩ := c.g__law_is_spot
    refine (fd_mk (k := 1) G sc__law_is_spot fun X W cdv A outer s H E eX eW tk hp hr => ?_)
    have hu := hr.units
    have hu65 : X.A.units + 65 < cLine := by have := hr.un; omega
    have hu1 : X.A.units + 1 < cLine := by have := hr.un; omega
    have nd := sc__law_is_spot.nd
    subst eX
    exact (b_cons (s_if (t_bool (w_or (t_not (t_val (d_B (cD_isi) (by rfl) c.n_isinstance bt_isinstance (a_cons (d_var (i := 0) rfl (Or.inl rfl)) (a_cons (d_ty (by rfl) c.n_tuple bt_tuple) a_nil))))) (w_or (t_cmp (opD_ne hu) (d_B (cD_len) (by rfl) c.n_len bt_len (a_cons (d_var (i := 0) rfl (Or.inl rfl)) a_nil)) d_int rfl) (w_or1 (t_cmp (opD_ne0 hu) (d_lc rfl nd (i_seq (d_var (i := 0) rfl (Or.inl rfl))) (blkOk_by (own := [("it", 1)]) (by kernel_rfl)) (by decide) (fun s H C cl fp => (g_name nd (i := 1) rfl (Or.inl rfl) (Or.inr rfl))) (fun s H C cl fp => (ts_one (t_not (t_val (d_call (ok__law_is_int c) bd__law_is_int (hr.mono (by decide)) rfl takesW0 (a_cons (d_var (i := 1) rfl (Or.inl rfl)) a_nil)))))) (fun s H C cl fp => d_int)) (d_lst a_nil) rfl))))) (b_one (s_ret d_bl)) b_nil)
      (b_one (s_ret (d_and (d_cmp opD_ge (d_ix hu1 (d_var (i := 0) rfl (Or.inl rfl)) d_int (fun _ _ => rfl)) d_int rfl) (d_one (d_cmp (opD_eq hu) (d_call (ok__law_gcd c) bd__law_gcd (hr.mono (by decide)) rfl tk (a_cons (d_call (ok__law_gcd c) bd__law_gcd (hr.mono (by decide)) rfl tk (a_cons (d_ix hu1 (d_var (i := 0) rfl (Or.inl rfl)) d_int (fun _ _ => rfl)) (a_cons (d_ix hu1 (d_var (i := 0) rfl (Or.inl rfl)) d_int (fun _ _ => rfl)) a_nil))) (a_cons (d_ix hu1 (d_var (i := 0) rfl (Or.inl rfl)) d_int (fun _ _ => rfl)) a_nil))) d_int rfl))))))

abbrev N__law_odd : List Str := ["deck", "it", "some"]
theorem sc__law_odd : FnScope N__law_odd ["deck", "it"] (defScope st__law_odd) := ⟨rfl, rfl, rfl, by decide +kernel, rfl, by decide +kernel, by decide +kernel⟩
theorem bd__law_odd : BindOk "_law_odd" st__law_odd ["deck", "it"] := fun _ _ _ _ _ _ us hl => match us, hl with | [_, _], _ => rfl
noncomputable def b__law_odd : SM :=
      (sSeq (sAsg (mLst (aCons (mC .non) (aCons (mC (.bl true)) (aCons (mC (.bl false)) (aCons (mC (.int 0)) (aCons (mC (.int 1)) (aCons (mUn negD (mC (.int 1))) (aCons (mC (.int 2)) (aCons (mC (.str "")) (aCons (mC (.str "0")) (aCons (mC (.str "at")) (aCons (mC (.str "a
~")) (aCons (mTup aNil) (aCons (mTup (aCons (mTup aNil) aNil)) (aCons (mLst aNil) (aCons mDic0 (aCons (mTup (aCons (mC (.int 0)) aNil)) (aCons (mTup (aCons (mC (.int 0)) (aCons (mC (.int 0)) aNil))) (aCons (mLst (aCons (mC (.int 0)) (aCons (mC (.int 0)) (aCons (mC (.int 1)) aNil)))) (aCons (mTup (aCons (mC (.int 0)) (aCons (mC (.int 0)) (aCons (mC (.int 0)) aNil)))) (aCons (mOp powD (mC (.int 10)) (mC (.int 39))) (aCons (mTup (aCons (mC (.int 0)) (aCons (mC (.int 0)) (aCons (mC (.int 1)) aNil)))) (aCons (mTup (aCons (mC (.int 2)) (aCons (mC (.int 4)) (aCons (mC (.int 2)) aNil)))) (aCons (mDic (pCons (mC (.str "a")) (mTup (aCons (mC (.int 1)) (aCons (mC (.int 2)) aNil))) pNil)) (aCons (mTup (aCons (mC (.bl true)) (aCons (mC (.int 0)) (aCons (mC (.int 1)) aNil)))) (aCons (mTup (aCons (mC (.int 0)) (aCons (mC (.int 0)) (aCons (mC (.bl true)) aNil)))) aNil)))))))))))))))))))))))))) (gN 2))
      (sSeq (sIf (bVal (mB isiD (aCons (mVar 1) (aCons (mC (.ty "tuple")) aNil)))) (sAsg (mOp addD (mVar 2) (mOp mulD (mLst (aCons (mB listD (aCons (mVar 1) aNil)) (aCons (mOp addD (mVar 1) (mTup (aCons (mC (.int 0)) aNil))) (aCons (mSlA (mVar 1) (oSome (mC (.int 1))) oNone) (aCons (mSlA (mVar 1) oNone (oSome (mUn negD (mC (.int 1))))) (aCons (mRevX (mVar 1)) (aCons (mOp addD (mVar 1) (mSlA (mVar 1) oNone (oSome (mC (.int 1))))) (aCons (mTup (aCons (mVar 1) aNil)) (aCons (mOp addD (mSlA (mVar 1) oNone (oSome (mC (.int 1)))) (mVar 1)) aNil))))))))) (mC (.int 3)))) (gN 2)) (sIf (bVal (mB isiD (aCons (mVar 1) (aCons (mC (.ty "str")) aNil)))) (sAsg (mOp addD (mVar 2) (mOp mulD (mLst (aCons (mOp addD (mVar 1) (mC (.str "0"))) (aCons (mSlA (mVar 1) oNone (oSome (mUn negD (mC (.int 1))))) (aCons (mM "str" upperD (mVar 1) aNil) (aCons (mOp addD (mVar 1) (mC (.str " "))) (aCons (mLst (aCons (mVar 1) aNil)) (aCons (mTup (aCons (mVar 1) aNil)) (aCons (mRevX (mVar 1)) aNil)))))))) (mC (.int 3)))) (gN 2)) (sIf (bAnd (bVal (mB isiD (aCons (mVar 1) (aCons (mC (.ty "int")) aNil)))) (bVal (mOp ltD (mB absD (aCons (mVar 1) aNil)) (mOp powD (mC (.int 10)) (mC (.int 30)))))) (sAsg (mOp addD (mVar 2) (mOp mulD (mLst (aCons (mOp addD (mVar 1) (mC (.int 1))) (aCons (mOp subD (mVar 1) (mC (.int 1))) (aCons (mUn negD (mVar 1)) (aCons (mOp eqD (mVar 1) (mC (.int 1))) (aCons (mOp eqD (mVar 1) (mC (.int 0))) (aCons (mLst (aCons (mVar 1) aNil)) (aCons (mTup (aCons (mVar 1) aNil)) (aCons (mB strD (aCons (mVar 1) aNil)) (aCons (mOp mulD (mC (.int 2)) (mVar 1)) aNil)))))))))) (mC (.int 3)))) (gN 2)) sNil)))
      (sRet (mCall 2 m__law_pick (aCons (mVar 0) (aCons (mVar 2) aNil))))))
noncomputable def m__law_odd : FM := fnP N__law_odd.length b__law_odd
theorem ok__law_odd (c : Fx K mg) : FD P w K mg base "_law_odd" st__law_odd ["deck", "it"] 3 m__law_odd := by
    obtain ⟨f, fd, G⟩ := c.g__law_odd
    refine (fd_mk (k := 2) G sc__law_odd fun X W cdv A outer s H E eX eW tk hp hr => ?_)
    have hu := hr.units
    have hu65 : X.A.units + 65 < cLine := by have := hr.un; omega
    have hu1 : X.A.units + 1 < cLine := by have := hr.un; omega
    have nd := sc__law_odd.nd
    subst eX
    exact (b_cons (s_set nd (i := 2) rfl (Or.inl rfl) (Or.inr rfl) (d_lst (a_cons d_non (a_cons d_bl (a_cons d_bl (a_cons d_int (a_cons d_int (a_cons (d_un unD_neg d_int) (a_cons d_int (a_cons d_str (a_cons d_str (a_cons d_str (a_cons d_str (a_cons (d_tup a_nil) (a_cons (d_tup (a_cons (d_tup a_nil) a_nil)) (a_cons (d_lst a_nil) (a_cons d_dic0 (a_cons (d_tup (a_cons d_int a_nil)) (a_cons (d_tup (a_cons d_int (a_cons d_int a_nil))) (a_cons (d_lst (a_cons d_int (a_cons d_int (a_cons d_int a_nil)))) (a_cons (d_tup (a_cons d_int (a_cons d_int (a_cons d_int a_nil)))) (a_cons (d_bin opD_pow d_int d_int) (a_cons (d_tup (a_cons d_int (a_cons d_int (a_cons d_int a_nil)))) (a_cons (d_tup (a_cons d_int (a_cons d_int (a_cons d_int a_nil)))) (a_cons (d_dic (p_cons d_str (d_tup (a_cons d_int (a_cons d_int a_nil))) p_nil)) (a_cons (d_tup (a_cons d_bl (a_cons d_int (a_cons d_int a_nil)))) (a_cons (d_tup (a_cons d_int (a_cons d_int (a_cons d_bl a_nil)))) a_nil)))))))))))))))))))))))))))
      (b_cons (s_if (t_val (d_B (cD_isi) (by rfl) c.n_isinstance bt_isinstance (a_cons (d_var (i := 1) rfl (Or.inl rfl)) (a_cons (d_ty (by rfl) c.n_tuple bt_tuple) a_nil)))) (b_one (s_set nd (i := 2) rfl (Or.inl rfl) (Or.inr rfl) (d_bin opD_add (d_var (i := 2) rfl (Or.inl rfl)) (d_bin opD_mul (d_lst (a_cons (d_Ty (cD_list) (by rfl) c.n_list bt_list (a_cons (d_var (i := 1) rfl (Or.inl rfl)) a_nil)) (a_cons (d_bin opD_add (d_var (i := 1) rfl (Or.inl rfl)) (d_tup (a_cons d_int a_nil))) (a_cons (d_slA (d_var (i := 1) rfl (Or.inl rfl)) (o_some d_int) o_none) (a_cons (d_slA (d_var (i := 1) rfl (Or.inl rfl)) o_none (o_some (d_un unD_neg d_int))) (a_cons (d_revX (d_var (i := 1) rfl (Or.inl rfl))) (a_cons (d_bin opD_add (d_var (i := 1) rfl (Or.inl rfl)) (d_slA (d_var (i := 1) rfl (Or.inl rfl)) o_none (o_some d_int))) (a_cons (d_tup (a_cons (d_var (i := 1) rfl (Or.inl rfl)) a_nil)) (a_cons (d_bin opD_add (d_slA (d_var (i := 1) rfl (Or.inl rfl)) o_none (o_some d_int)) (d_var (i := 1) rfl (Or.inl rfl))) a_nil))))))))) d_int)))) (b_one (s_if (t_val (d_B (cD_isi) (by rfl) c.n_isinstance bt_isinstance (a_cons (d_var (i := 1) rfl (Or.inl rfl)) (a_cons (d_ty (by rfl) c.n_str bt_str) a_nil)))) (b_one (s_set nd (i := 2) rfl (Or.inl rfl) (Or.inr rfl) (d_bin opD_add (d_var (i := 2) rfl (Or.inl rfl)) (d_bin opD_mul (d_lst (a_cons (d_bin opD_add (d_var (i := 1) rfl (Or.inl rfl)) d_str) (a_cons (d_slA (d_var (i := 1) rfl (Or.inl rfl)) o_none (o_some (d_un unD_neg d_int))) (a_cons (d_bm0 PySem.F.plainAttrs_str PySem.F.slot_str_upper PySem.F.type_str_upper mD_upper (d_var (i := 1) rfl (Or.inl rfl))) (a_cons (d_bin opD_add (d_var (i := 1) rfl (Or.inl rfl)) d_str) (a_cons (d_lst (a_cons (d_var (i := 1) rfl (Or.inl rfl)) a_nil)) (a_cons (d_tup (a_cons (d_var (i := 1) rfl (Or.inl rfl)) a_nil)) (a_cons (d_revX (d_var (i := 1) rfl (Or.inl rfl))) a_nil)))))))) d_int)))) (b_one (s_if (t_bool (w_and (t_val (d_B (cD_isi) (by rfl) c.n_isinstance bt_isinstance (a_cons (d_var (i := 1) rfl (Or.inl rfl)) (a_cons (d_ty (by rfl) c.n_int bt_int) a_nil)))) (w_and1 (t_cmp opD_lt (d_B (cD_abs) (by rfl) c.n_abs bt_abs (a_cons (d_var (i := 1) rfl (Or.inl rfl)) a_nil)) (d_bin opD_pow d_int d_int) rfl)))) (b_one (s_set nd (i := 2) rfl (Or.inl rfl) (Or.inr rfl) (d_bin opD_add (d_var (i := 2) rfl (Or.inl rfl)) (d_bin opD_mul (d_lst (a_cons (d_bin opD_add (d_var (i := 1) rfl (Or.inl rfl)) d_int) (a_cons (d_bin opD_sub (d_var (i := 1) rfl (Or.inl rfl)) d_int) (a_cons (d_un unD_neg (d_var (i := 1) rfl (Or.inl rfl))) (a_cons (d_cmp (opD_eq hu) (d_var (i := 1) rfl (Or.inl rfl)) d_int rfl) (a_cons (d_cmp (opD_eq hu) (d_var (i := 1) rfl (Or.inl rfl)) d_int rfl) (a_cons (d_lst (a_cons (d_var (i := 1) rfl (Or.inl rfl)) a_nil)) (a_cons (d_tup (a_cons (d_var (i := 1) rfl (Or.inl rfl)) a_nil)) (a_cons (d_Ty (cD_str) (by rfl) c.n_str bt_str (a_cons (d_var (i := 1) rfl (Or.inl rfl)) a_nil)) (a_cons (d_bin opD_mul d_int (d_var (i := 1) rfl (Or.inl rfl))) a_nil)))))))))) d_int)))) b_nil)))))
      (b_one (s_ret (d_call (ok__law_pick c) bd__law_pick (hr.mono (by decide)) rfl tk (a_cons (d_var (i := 0) rfl (Or.inl rfl)) (a_cons (d_var (i := 2) rfl (Or.inl rfl)) a_nil)))))))

abbrev N__law_bent : List Str := ["deck", "it", "at"]
theorem sc__law_bent : FnScope N__law_bent ["deck", "it"] (defScope st__law_bent) := ⟨rfl, rfl, rfl, by decide +kernel, rfl, by decide +kernel, by decide +kernel⟩
theorem bd__law_bent : BindOk "_law_bent" st__law_bent ["deck", "it"] := fun _ _ _ _ _ _ us hl => match us, hl with | [_, _], _ => rfl
noncomputable def b__law_bent (mr : FM) : SM :=
      (sSeq (sIf (bOr (bNot (bVal (mB isiD (aCons (mVar 1) (aCons (mC (.ty "tuple")) aNil))))) (bOr (bVal (mOp eq0D (mVar 1) (mTup aNil))) (bVal (mOp eqD (mCall 2 m__law_draw (aCons (mVar 0) (aCons (mC (.int 5)) aNil))) (mC (.int 4)))))) (sRet (mCall 2 m__law_odd (aCons (mVar 0) (aCons (mVar 1) aNil)))) sNil)
      (sSeq (sAsg (mCall 2 m__law_draw (aCons (mVar 0) (aCons (mB lenD (aCons (mVar 1) aNil)) aNil))) (gN 2))
      (sRet (mOp addD (mOp addD (mSl (mVar 1) oNone (oSome (mVar 2))) (mTup (aCons (mCall 2 mr (aCons (mVar 0) (aCons (mOp ixD (mVar 1) (mVar 2)) aNil))) aNil))) (mSl (mVar 1) (oSome (mOp addD (mVar 2) (mC (.int 1)))) oNone)))))
noncomputable def m__law_bent : Nat → FM
  | 0 => fnP N__law_bent.length sBad
  | k + 1 => fnP N__law_bent.length (b__law_bent (m__law_bent k))
theorem ok__law_bent (c : Fx K mg) : ∀ n : Nat, FD P w K mg base "_law_bent" st__law_bent ["deck", "it"] (n + 4) (m__law_bent n)
  | 0 => by
    obtain ⟨f, fd, G⟩ := c.g__law_bent
    exact (fd_mk (k := 3) G sc__law_bent fun X W cdv A outer s H E eX eW tk hp hr => b_bad)
  | k + 1 => by
    have ih := ok__law_bent c k
    obtain ⟨f, fd, G⟩ := c.g__law_bent
    refine (fd_mk (k := k + 4) G sc__law_bent fun X W cdv A outer s H E eX eW tk hp hr => ?_)
    have hu := hr.units
    have hu65 : X.A.units + 65 < cLine := by have := hr.un; omega
    have hu1 : X.A.units + 1 < cLine := by have := hr.un; omega
    have nd := sc__law_bent.nd
    subst eX
    exact (b_cons (s_if (t_bool (w_or (t_not (t_val (d_B (cD_isi) (by rfl) c.n_isinstance bt_isinstance (a_cons (d_var (i := 1) rfl (Or.inl rfl)) (a_cons (d_ty (by rfl) c.n_tuple bt_tuple) a_nil))))) (w_or (t_cmp (opD_eq0 hu) (d_var (i := 1) rfl (Or.inl rfl)) (d_tup a_nil) rfl) (w_or1 (t_cmp (opD_eq hu) (d_call (ok__law_draw c) bd__law_draw (hr.mono (by omega)) rfl tk (a_cons (d_var (i := 0) rfl (Or.inl rfl)) (a_cons d_int a_nil))) d_int rfl))))) (b_one (s_ret (d_call (ok__law_odd c) bd__law_odd (hr.mono (by omega)) rfl tk (a_cons (d_var (i := 0) rfl (Or.inl rfl)) (a_cons (d_var (i := 1) rfl (Or.inl rfl)) a_nil))))) b_nil)
      (b_cons (s_set nd (i := 2) rfl (Or.inl rfl) (Or.inr rfl) (d_call (ok__law_draw c) bd__law_draw (hr.mono (by omega)) rfl tk (a_cons (d_var (i := 0) rfl (Or.inl rfl)) (a_cons (d_B (cD_len) (by rfl) c.n_len bt_len (a_cons (d_var (i := 1) rfl (Or.inl rfl)) a_nil)) a_nil))))
      (b_one (s_ret (d_bin opD_add (d_bin opD_add (d_sl (d_var (i := 1) rfl (Or.inl rfl)) o_none (o_some (d_var (i := 2) rfl (Or.inl rfl)))) (d_tup (a_cons (d_call ih bd__law_bent hr rfl tk (a_cons (d_var (i := 0) rfl (Or.inl rfl)) (a_cons (d_ix hu1 (d_var (i := 1) rfl (Or.inl rfl)) (d_var (i := 2) rfl (Or.inl rfl)) (fun _ _ => rfl)) a_nil))) a_nil))) (d_sl (d_var (i := 1) rfl (Or.inl rfl)) (o_some (d_bin opD_add (d_var (i := 2) rfl (Or.inl rfl)) d_int)) o_none))))))

abbrev N__law_number : List Str := ["deck", "most", "way"]
theorem sc__law_number : FnScope N__law_number ["deck", "most"] (defScope st__law_number) := ⟨rfl, rfl, rfl, by decide +kernel, rfl, by decide +kernel, by decide +kernel⟩
theorem bd__law_number : BindOk "_law_number" st__law_number ["deck", "most"] := fun _ _ _ _ _ _ us hl => match us, hl with | [_, _], _ => rfl
noncomputable def b__law_number : SM :=
      (sSeq (sAsg (mCall 2 m__law_draw (aCons (mVar 0) (aCons (mC (.int 8)) aNil))) (gN 2))
      (sSeq (sIf (bVal (mOp eqD (mVar 2) (mC (.int 0)))) (sRet (mCall 2 m__law_pick (aCons (mVar 0) (aCons (mTup (aCons (mC (.int 0)) (aCons (mC (.int 1)) (aCons (mUn negD (mC (.int 1))) (aCons (mVar 1) (aCons (mUn negD (mVar 1)) (aCons (mOp subD (mVar 1) (mC (.int 1))) (aCons (mOp subD (mC (.int 1)) (mVar 1)) (aCons (mC (.int 0)) aNil))))))))) aNil)))) sNil)
      (sRet (mOp subD (mCall 2 m__law_far (aCons (mVar 0) (aCons (mOp addD (mOp mulD (mC (.int 2)) (mVar 1)) (mC (.int 1))) aNil))) (mVar 1)))))
noncomputable def m__law_number : FM := fnP N__law_number.length b__law_number
theorem ok__law_number (c : Fx K mg) : FD P w K mg base "_law_number" st__law_number ["deck", "most"] 3 m__law_number := by
    obtain ⟨f, fd, G⟩ := c.g__law_number
    refine (fd_mk (k := 2) G sc__law_number fun X W cdv A outer s H E eX eW tk hp hr => ?_)
    have hu := hr.units
    have hu65 : X.A.units + 65 < cLine := by have := hr.un; omega
    have hu1 : X.A.units + 1 < cLine := by have := hr.un; omega
    have nd := sc__law_number.nd
    subst eX
    exact (b_cons (s_set nd (i := 2) rfl (Or.inl rfl) (Or.inr rfl) (d_call (ok__law_draw c) bd__law_draw (hr.mono (by decide)) rfl tk (a_cons (d_var (i := 0) rfl (Or.inl rfl)) (a_cons d_int a_nil))))
      (b_cons (s_if (t_cmp (opD_eq hu) (d_var (i := 2) rfl (Or.inl rfl)) d_int rfl) (b_one (s_ret (d_call (ok__law_pick c) bd__law_pick (hr.mono (by decide)) rfl tk (a_cons (d_var (i := 0) rfl (Or.inl rfl)) (a_cons (d_tup (a_cons d_int (a_cons d_int (a_cons (d_un unD_neg d_int) (a_cons (d_var (i := 1) rfl (Or.inl rfl)) (a_cons (d_un unD_neg (d_var (i := 1) rfl (Or.inl rfl))) (a_cons (d_bin opD_sub (d_var (i := 1) rfl (Or.inl rfl)) d_int) (a_cons (d_bin opD_sub d_int (d_var (i := 1) rfl (Or.inl rfl))) (a_cons d_int a_nil))))))))) a_nil))))) b_nil)
      (b_one (s_ret (d_bin opD_sub (d_call (ok__law_far c) bd__law_far (hr.mono (by decide)) rfl tk (a_cons (d_var (i := 0) rfl (Or.inl rfl)) (a_cons (d_bin opD_add (d_bin opD_mul d_int (d_var (i := 1) rfl (Or.inl rfl))) d_int) a_nil))) (d_var (i := 1) rfl (Or.inl rfl)))))))

abbrev N__law_any_spot : List Str := ["deck", "most", "w"]
theorem sc__law_any_spot : FnScope N__law_any_spot ["deck", "most"] (defScope st__law_any_spot) := ⟨rfl, rfl, rfl, by decide +kernel, rfl, by decide +kernel, by decide +kernel⟩
theorem bd__law_any_spot : BindOk "_law_any_spot" st__law_any_spot ["deck", "most"] := fun _ _ _ _ _ _ us hl => match us, hl with | [_, _], _ => rfl
noncomputable def b__law_any_spot : SM :=
      (sSeq (sAsg (mCall 2 m__law_pick (aCons (mVar 0) (aCons (mTup (aCons (mC (.int 1)) (aCons (mC (.int 1)) (aCons (mC (.int 1)) (aCons (mC (.int 2)) (aCons (mC (.int 3)) (aCons (mOp addD (mC (.int 1)) (mCall 2 m__law_draw (aCons (mVar 0) (aCons (mC (.int 9)) aNil)))) (aCons (mOp addD (mC (.int 1)) (mCall 2 m__law_far (aCons (mVar 0) (aCons (mVar 1) aNil)))) (aCons (mVar 1) aNil))))))))) aNil))) (gN 2))
      (sRet (mCall 3 m__law_spot (aCons (mCall 2 m__law_number (aCons (mVar 0) (aCons (mVar 1) aNil))) (aCons (mCall 2 m__law_number (aCons (mVar 0) (aCons (mVar 1) aNil))) (aCons (mB min2D (aCons (mVar 2) (aCons (mVar 1) aNil))) aNil))))))
noncomputable def m__law_any_spot : FM := fnP N__law_any_spot.length b__law_any_spot
theorem ok__law_any_spot (c : Fx K mg) : FD P w K mg base "_law_any_spot" st__law_any_spot ["deck", "most"] 4 m__law_any_spot := by
    obtain ⟨f, fd, G⟩ := c.g__law_any_spot
    refine (fd_mk (k := 3) G sc__law_any_spot fun X W cdv A outer s H E eX eW tk hp hr => ?_)
    have hu := hr.units
    have hu65 : X.A.units + 65 < cLine := by have := hr.un; omega
    have hu1 : X.A.units + 1 < cLine := by have := hr.un; omega
    have nd := sc__law_any_spot.nd
    subst eX
    exact (b_cons (s_set nd (i := 2) rfl (Or.inl rfl) (Or.inr rfl) (d_call (ok__law_pick c) bd__law_pick (hr.mono (by decide)) rfl tk (a_cons (d_var (i := 0) rfl (Or.inl rfl)) (a_cons (d_tup (a_cons d_int (a_cons d_int (a_cons d_int (a_cons d_int (a_cons d_int (a_cons (d_bin opD_add d_int (d_call (ok__law_draw c) bd__law_draw (hr.mono (by decide)) rfl tk (a_cons (d_var (i := 0) rfl (Or.inl rfl)) (a_cons d_int a_nil)))) (a_cons (d_bin opD_add d_int (d_call (ok__law_far c) bd__law_far (hr.mono (by decide)) rfl tk (a_cons (d_var (i := 0) rfl (Or.inl rfl)) (a_cons (d_var (i := 1) rfl (Or.inl rfl)) a_nil)))) (a_cons (d_var (i := 1) rfl (Or.inl rfl)) a_nil))))))))) a_nil))))
      (b_one (s_ret (d_call (ok__law_spot c) bd__law_spot (hr.mono (by decide)) rfl tk (a_cons (d_call (ok__law_number c) bd__law_number (hr.mono (by decide)) rfl tk (a_cons (d_var (i := 0) rfl (Or.inl rfl)) (a_cons (d_var (i := 1) rfl (Or.inl rfl)) a_nil))) (a_cons (d_call (ok__law_number c) bd__law_number (hr.mono (by decide)) rfl tk (a_cons (d_var (i := 0) rfl (Or.inl rfl)) (a_cons (d_var (i := 1) rfl (Or.inl rfl)) a_nil))) (a_cons (d_B (cD_min2 rfl) (by rfl) c.n_min bt_min (a_cons (d_var (i := 2) rfl (Or.inl rfl)) (a_cons (d_var (i := 1) rfl (Or.inl rfl)) a_nil))) a_nil)))))))

abbrev N__law_is_within : List Str := ["here", "most"]
theorem sc__law_is_within : FnScope N__law_is_within ["here", "most"] (defScope st__law_is_within) := ⟨rfl, rfl, rfl, by decide +kernel, rfl, by decide +kernel, by decide +kernel⟩
theorem bd__law_is_within : BindOk "_law_is_within" st__law_is_within ["here", "most"] := fun _ _ _ _ _ _ us hl => match us, hl with | [_, _], _ => rfl
noncomputable def b__law_is_within : SM :=
      (sRet (mAnd (mOp leD (mB absD (aCons (mOp ixD (mVar 0) (mC (.int 0))) aNil)) (mVar 1)) (mAnd (mOp leD (mB absD (aCons (mOp ixD (mVar 0) (mC (.int 1))) aNil)) (mVar 1)) (mOp leD (mOp ixD (mVar 0) (mC (.int 2))) (mVar 1)))))
noncomputable def m__law_is_within : FM := fnP N__law_is_within.length b__law_is_within
theorem ok__law_is_within (c : Fx K mg) : FD P w K mg base "_law_is_within" st__law_is_within ["here", "most"] 1 m__law_is_within := by
    obtain ⟨f, fd, G⟩ := c.g__law_is_within
    refine (fd_mk (k := 0) G sc__law_is_within fun X W cdv A outer s H E eX eW tk hp hr => ?_)
    have hu := hr.units
    have hu65 : X.A.units + 65 < cLine := by have := hr.un; omega
    have hu1 : X.A.units + 1 < cLine := by have := hr.un; omega
    have nd := sc__law_is_within.nd
    subst eX
    exact (b_one (s_ret (d_and (d_cmp opD_le (d_B (cD_abs) (by rfl) c.n_abs bt_abs (a_cons (d_ix hu1 (d_var (i := 0) rfl (Or.inl rfl)) d_int (fun _ _ => rfl)) a_nil)) (d_var (i := 1) rfl (Or.inl rfl)) rfl) (d_and (d_cmp opD_le (d_B (cD_abs) (by rfl) c.n_abs bt_abs (a_cons (d_ix hu1 (d_var (i := 0) rfl (Or.inl rfl)) d_int (fun _ _ => rfl)) a_nil)) (d_var (i := 1) rfl (Or.inl rfl)) rfl) (d_one (d_cmp opD_le (d_ix hu1 (d_var (i := 0) rfl (Or.inl rfl)) d_int (fun _ _ => rfl)) (d_var (i := 1) rfl (Or.inl rfl)) rfl))))))

abbrev N__law_det : List Str := ["chart", "a", "b", "c", "d", "e", "f", "g", "h", "i"]
theorem sc__law_det : FnScope N__law_det ["chart"] (defScope st__law_det) := ⟨rfl, rfl, rfl, by decide +kernel, rfl, by decide +kernel, by decide +kernel⟩
theorem bd__law_det : BindOk "_law_det" st__law_det ["chart"] := fun _ _ _ _ _ _ us hl => match us, hl with | [_], _ => rfl
noncomputable def b__law_det : SM :=
      (sSeq (sAsg (mVar 0) (gT [(gT [(gN 1), (gN 2), (gN 3)]), (gT [(gN 4), (gN 5), (gN 6)]), (gT [(gN 7), (gN 8), (gN 9)])]))
      (sRet (mOp addD (mOp subD (mOp mulD (mVar 1) (mOp subD (mOp mulD (mVar 5) (mVar 9)) (mOp mulD (mVar 6) (mVar 8)))) (mOp mulD (mVar 2) (mOp subD (mOp mulD (mVar 4) (mVar 9)) (mOp mulD (mVar 6) (mVar 7))))) (mOp mulD (mVar 3) (mOp subD (mOp mulD (mVar 4) (mVar 8)) (mOp mulD (mVar 5) (mVar 7)))))))
noncomputable def m__law_det : FM := fnP N__law_det.length b__law_det
theorem ok__law_det (c : Fx K mg) : FD P w K mg base "_law_det" st__law_det ["chart"] 1 m__law_det := by
    obtain ⟨f, fd, G⟩ := c.g__law_det
    refine (fd_mk (k := 0) G sc__law_det fun X W cdv A outer s H E eX eW tk hp hr => ?_)
    have hu := hr.units
    have hu65 : X.A.units + 65 < cLine := by have := hr.un; omega
    have hu1 : X.A.units + 1 < cLine := by have := hr.un; omega
    have nd := sc__law_det.nd
    subst eX
    exact (b_cons (s_asg (d_var (i := 0) rfl (Or.inl rfl)) (g_tup rfl (gs_cons (g_tup rfl (gs_cons (g_name nd (i := 1) rfl (Or.inl rfl) (Or.inr rfl)) (gs_cons (g_name nd (i := 2) rfl (Or.inl rfl) (Or.inr rfl)) (gs_cons (g_name nd (i := 3) rfl (Or.inl rfl) (Or.inr rfl)) gs_nil)))) (gs_cons (g_tup rfl (gs_cons (g_name nd (i := 4) rfl (Or.inl rfl) (Or.inr rfl)) (gs_cons (g_name nd (i := 5) rfl (Or.inl rfl) (Or.inr rfl)) (gs_cons (g_name nd (i := 6) rfl (Or.inl rfl) (Or.inr rfl)) gs_nil)))) (gs_cons (g_tup rfl (gs_cons (g_name nd (i := 7) rfl (Or.inl rfl) (Or.inr rfl)) (gs_cons (g_name nd (i := 8) rfl (Or.inl rfl) (Or.inr rfl)) (gs_cons (g_name nd (i := 9) rfl (Or.inl rfl) (Or.inr rfl)) gs_nil)))) gs_nil)))))
      (b_one (s_ret (d_bin opD_add (d_bin opD_sub (d_bin opD_mul (d_var (i := 1) rfl (Or.inl rfl)) (d_bin opD_sub (d_bin opD_mul (d_var (i := 5) rfl (Or.inl rfl)) (d_var (i := 9) rfl (Or.inl rfl))) (d_bin opD_mul (d_var (i := 6) rfl (Or.inl rfl)) (d_var (i := 8) rfl (Or.inl rfl))))) (d_bin opD_mul (d_var (i := 2) rfl (Or.inl rfl)) (d_bin opD_sub (d_bin opD_mul (d_var (i := 4) rfl (Or.inl rfl)) (d_var (i := 9) rfl (Or.inl rfl))) (d_bin opD_mul (d_var (i := 6) rfl (Or.inl rfl)) (d_var (i := 7) rfl (Or.inl rfl)))))) (d_bin opD_mul (d_var (i := 3) rfl (Or.inl rfl)) (d_bin opD_sub (d_bin opD_mul (d_var (i := 4) rfl (Or.inl rfl)) (d_var (i := 8) rfl (Or.inl rfl))) (d_bin opD_mul (d_var (i := 5) rfl (Or.inl rfl)) (d_var (i := 7) rfl (Or.inl rfl)))))))))

abbrev N__law_is_chart : List Str := ["thing", "row", "it"]
theorem sc__law_is_chart : FnScope N__law_is_chart ["thing"] (defScope st__law_is_chart) := ⟨rfl, rfl, rfl, by decide +kernel, rfl, by decide +kernel, by decide +kernel⟩
theorem bd__law_is_chart : BindOk "_law_is_chart" st__law_is_chart ["thing"] := fun _ _ _ _ _ _ us hl => match us, hl with | [_], _ => rfl
noncomputable def b__law_is_chart : SM :=
      (sSeq (sIf (bOr (bNot (bVal (mB isiD (aCons (mVar 0) (aCons (mC (.ty "tuple")) aNil))))) (bVal (mOp neD (mB lenD (aCons (mVar 0) aNil)) (mC (.int 3))))) (sRet (mC (.bl false))) sNil)
      (sSeq (sFor (iSeq (mVar 0)) (gN 1) (sIf (bOr (bNot (bVal (mB isiD (aCons (mVar 1) (aCons (mC (.ty "tuple")) aNil))))) (bOr (bVal (mOp neD (mB lenD (aCons (mVar 1) aNil)) (mC (.int 3)))) (bVal (mOp ne0D (mLc (iSeq (mVar 1)) (gN 2) (bNot (bVal (mCall 1 m__law_is_int (aCons (mVar 2) aNil)))) (mC (.int 1)) [2]) (mLst aNil))))) (sRet (mC (.bl false))) sNil))
      (sRet (mAnd (mOp neD (mCall 1 m__law_det (aCons (mVar 0) aNil)) (mC (.int 0))) (mOr (mOp neD (mSl (mOp ixD (mVar 0) (mC (.int 2))) oNone (oSome (mC (.int 2)))) (mTup (aCons (mC (.int 0)) (aCons (mC (.int 0)) aNil)))) (mOp gtD (mOp ixD (mOp ixD (mVar 0) (mC (.int 2))) (mC (.int 2))) (mC (.int 0))))))))
noncomputable def m__law_is_chart : FM := fnP N__law_is_chart.length b__law_is_chart
theorem ok__law_is_chart (c : Fx K mg) : FD P w K mg base "_law_is_chart" st__law_is_chart ["thing"] 2 m__law_is_chart := by
    obtain ⟨f, fd, G⟩ := c.g__law_is_chart
    refine (fd_mk (k := 1) G sc__law_is_chart fun X W cdv A outer s H E eX eW tk hp hr => ?_)
    have hu := hr.units
    have hu65 : X.A.units + 65 < cLine := by have := hr.un; omega
    have hu1 : X.A.units + 1 < cLine := by have := hr.un; omega
    have nd := sc__law_is_chart.nd
    subst eX
    exact (b_cons (s_if (t_bool (w_or (t_not (t_val (d_B (cD_isi) (by rfl) c.n_isinstance bt_isinstance (a_cons (d_var (i := 0) rfl (Or.inl rfl)) (a_cons (d_ty (by rfl) c.n_tuple bt_tuple) a_nil))))) (w_or1 (t_cmp (opD_ne hu) (d_B (cD_len) (by rfl) c.n_len bt_len (a_cons (d_var (i := 0) rfl (Or.inl rfl)) a_nil)) d_int rfl)))) (b_one (s_ret d_bl)) b_nil)
      (b_cons (s_for hp rfl (i_seq (d_var (i := 0) rfl (Or.inl rfl))) (g_name nd (i := 1) rfl (Or.inl rfl) (Or.inr rfl)) (b_one (s_if (t_bool (w_or (t_not (t_val (d_B (cD_isi) (by rfl) c.n_isinstance bt_isinstance (a_cons (d_var (i := 1) rfl (Or.inl rfl)) (a_cons (d_ty (by rfl) c.n_tuple bt_tuple) a_nil))))) (w_or (t_cmp (opD_ne hu) (d_B (cD_len) (by rfl) c.n_len bt_len (a_cons (d_var (i := 1) rfl (Or.inl rfl)) a_nil)) d_int rfl) (w_or1 (t_cmp (opD_ne0 hu) (d_lc rfl nd (i_seq (d_var (i := 1) rfl (Or.inl rfl))) (blkOk_by (own := [("it", 2)]) (by kernel_rfl)) (by decide) (fun s H C cl fp => (g_name nd (i := 2) rfl (Or.inl rfl) (Or.inr rfl))) (fun s H C cl fp => (ts_one (t_not (t_val (d_call (ok__law_is_int c) bd__law_is_int (hr.mono (by decide)) rfl takesW0 (a_cons (d_var (i := 2) rfl (Or.inl rfl)) a_nil)))))) (fun s H C cl fp => d_int)) (d_lst a_nil) rfl))))) (b_one (s_ret d_bl)) b_nil)))
      (b_one (s_ret (d_and (d_cmp (opD_ne hu) (d_call (ok__law_det c) bd__law_det (hr.mono (by decide)) rfl tk (a_cons (d_var (i := 0) rfl (Or.inl rfl)) a_nil)) d_int rfl) (d_one (d_or (d_cmp (opD_ne hu) (d_sl (d_ix hu1 (d_var (i := 0) rfl (Or.inl rfl)) d_int (fun _ _ => rfl)) o_none (o_some d_int)) (d_tup (a_cons d_int (a_cons d_int a_nil))) rfl) (d_one (d_cmp opD_gt (d_ix hu1 (d_ix hu1 (d_var (i := 0) rfl (Or.inl rfl)) d_int (fun _ _ => rfl)) d_int (fun _ _ => rfl)) d_int rfl)))))))))

abbrev N__law_chart : List Str := ["deck", "most", "way", "rows", "at", "go", "chart", "row", "a", "b", "c"]
theorem sc__law_chart : FnScope N__law_chart ["deck", "most"] (defScope st__law_chart) := ⟨rfl, rfl, rfl, by decide +kernel, rfl, by decide +kernel, by decide +kernel⟩
theorem bd__law_chart : BindOk "_law_chart" st__law_chart ["deck", "most"] := fun _ _ _ _ _ _ us hl => match us, hl with | [_, _], _ => rfl
noncomputable def b__law_chart : SM :=
      (sSeq (sPar [2, 3] (aCons (mCall 2 m__law_draw (aCons (mVar 0) (aCons (mC (.int 6)) aNil))) (aCons (mNew aNil) aNil)))
      (sSeq (sFor (iRng1 (aCons (mC (.int 3)) aNil)) (gN 4) (sDrop (mM "list" appD (mVar 3) (aCons (mLc (iRng1 (aCons (mC (.int 3)) aNil)) (gN 5) bYes (mIf (bVal (mOp gtD (mCall 2 m__law_draw (aCons (mVar 0) (aCons (mC (.int 3)) aNil))) (mC (.int 0)))) (mCall 2 m__law_number (aCons (mVar 0) (aCons (mVar 1) aNil))) (mC (.int 0))) [5]) aNil))))
      (sSeq (sIf (bVal (mOp ltD (mVar 2) (mC (.int 2)))) (sAsg (mLst (aCons (mC (.int 0)) (aCons (mC (.int 0)) (aCons (mOp addD (mC (.int 1)) (mCall 2 m__law_far (aCons (mVar 0) (aCons (mVar 1) aNil)))) aNil)))) (gSet (mVar 3) (mC (.int 2)))) sNil)
      (sSeq (sIf (bVal (mOp eqD (mVar 2) (mC (.int 2)))) (sAsg (mTup (aCons (mLst (aCons (mCall 2 m__law_pick (aCons (mVar 0) (aCons (mTup (aCons (mC (.int 1)) (aCons (mUn negD (mC (.int 1))) (aCons (mVar 1) aNil)))) aNil))) (aCons (mC (.int 0)) (aCons (mC (.int 0)) aNil)))) (aCons (mLst (aCons (mC (.int 0)) (aCons (mCall 2 m__law_pick (aCons (mVar 0) (aCons (mTup (aCons (mC (.int 1)) (aCons (mUn negD (mC (.int 1))) (aCons (mVar 1) aNil)))) aNil))) (aCons (mC (.int 0)) aNil)))) aNil))) (gT [(gSet (mVar 3) (mC (.int 0))), (gSet (mVar 3) (mC (.int 1)))])) sNil)
      (sSeq (sAsg (mB tupleD (aCons (mLc (iSeq (mVar 3)) (gN 7) bYes (mB tupleD (aCons (mVar 7) aNil)) [7]) aNil)) (gN 6))
      (sSeq (sIf (bVal (mCall 1 m__law_is_chart (aCons (mVar 6) aNil))) (sRet (mVar 6)) sNil)
      (sSeq (sPar [8, 9, 10] (aCons (mCall 2 m__law_number (aCons (mVar 0) (aCons (mVar 1) aNil))) (aCons (mCall 2 m__law_number (aCons (mVar 0) (aCons (mVar 1) aNil))) (aCons (mCall 2 m__law_number (aCons (mVar 0) (aCons (mVar 1) aNil))) aNil))))
      (sSeq (sIf (bVal (mOp eqD (mVar 2) (mC (.int 4)))) (sRet (mTup (aCons (mTup (aCons (mC (.int 1)) (aCons (mVar 8) (aCons (mVar 9) aNil)))) (aCons (mTup (aCons (mC (.int 0)) (aCons (mVar 10) (aCons (mC (.int 1)) aNil)))) (aCons (mTup (aCons (mC (.int 0)) (aCons (mC (.int 1)) (aCons (mC (.int 0)) aNil)))) aNil))))) sNil)
      (sRet (mTup (aCons (mTup (aCons (mC (.int 1)) (aCons (mVar 8) (aCons (mVar 9) aNil)))) (aCons (mTup (aCons (mC (.int 0)) (aCons (mIf (bVal (mOp eqD (mVar 2) (mC (.int 3)))) (mUn negD (mC (.int 1))) (mC (.int 1))) (aCons (mVar 10) aNil)))) (aCons (mTup (aCons (mC (.int 0)) (aCons (mC (.int 0)) (aCons (mC (.int 1)) aNil)))) aNil)))))))))))))
noncomputable def m__law_chart : FM := (fun ds S => gcR S (fnP N__law_chart.length b__law_chart ds S))
theorem ok__law_chart (c : Fx K mg) : FD P w K mg base "_law_chart" st__law_chart ["deck", "most"] 4 m__law_chart := by
    obtain ⟨f, fd, G⟩ := c.g__law_chart
    refine (fd_mk (k := 3) G sc__law_chart fun X W cdv A outer s H E eX eW tk hp hr => ?_).gc
    have hu := hr.units
    have hu65 : X.A.units + 65 < cLine := by have := hr.un; omega
    have hu1 : X.A.units + 1 < cLine := by have := hr.un; omega
    have nd := sc__law_chart.nd
    subst eX
    exact (b_cons (s_par2 (i := 2) (j := 3) rfl nd rfl rfl (by decide) rfl rfl (a_cons (d_call (ok__law_draw c) bd__law_draw (hr.mono (by decide)) rfl tk (a_cons (d_var (i := 0) rfl (Or.inr (Or.inl rfl))) (a_cons d_int a_nil))) (a_cons (d_new a_nil) a_nil)))
      (b_cons (s_for hp rfl (i_rng1 (by rfl) c.n_range (a_cons d_int a_nil)) (g_name nd (i := 4) rfl (Or.inl rfl) (Or.inr rfl)) (b_one (s_drop (d_bm PySem.F.plainAttrs_list PySem.F.slot_list_append PySem.F.type_list_append mD_app (d_var (i := 3) rfl (Or.inl rfl)) (a_cons (d_lc rfl nd (i_rng1 (by rfl) c.n_range (a_cons d_int a_nil)) (blkOk_by (own := [("go", 5)]) (by kernel_rfl)) (by decide) (fun s H C cl fp => (g_name nd (i := 5) rfl (Or.inl rfl) (Or.inr rfl))) (fun s H C cl fp => ts_nil) (fun s H C cl fp => (d_if (t_cmp opD_gt (d_call (ok__law_draw c) bd__law_draw (hr.mono (by decide)) rfl takesW0 (a_cons (d_var (i := 0) rfl (Or.inr (Or.inl rfl))) (a_cons d_int a_nil))) d_int rfl) (d_call (ok__law_number c) bd__law_number (hr.mono (by decide)) rfl takesW0 (a_cons (d_var (i := 0) rfl (Or.inr (Or.inl rfl))) (a_cons (d_var (i := 1) rfl (Or.inr (Or.inl rfl))) a_nil))) d_int))) a_nil)))))
      (b_cons (s_if (t_cmp opD_lt (d_var (i := 2) rfl (Or.inl rfl)) d_int rfl) (b_one (s_asg (d_lst (a_cons d_int (a_cons d_int (a_cons (d_bin opD_add d_int (d_call (ok__law_far c) bd__law_far (hr.mono (by decide)) rfl tk (a_cons (d_var (i := 0) rfl (Or.inr (Or.inl rfl))) (a_cons (d_var (i := 1) rfl (Or.inr (Or.inl rfl))) a_nil)))) a_nil)))) (g_set hu1 (d_var (i := 3) rfl (Or.inl rfl)) d_int))) b_nil)
      (b_cons (s_if (t_cmp (opD_eq hu) (d_var (i := 2) rfl (Or.inl rfl)) d_int rfl) (b_one (s_asg (d_tup (a_cons (d_lst (a_cons (d_call (ok__law_pick c) bd__law_pick (hr.mono (by decide)) rfl tk (a_cons (d_var (i := 0) rfl (Or.inr (Or.inl rfl))) (a_cons (d_tup (a_cons d_int (a_cons (d_un unD_neg d_int) (a_cons (d_var (i := 1) rfl (Or.inr (Or.inl rfl))) a_nil)))) a_nil))) (a_cons d_int (a_cons d_int a_nil)))) (a_cons (d_lst (a_cons d_int (a_cons (d_call (ok__law_pick c) bd__law_pick (hr.mono (by decide)) rfl tk (a_cons (d_var (i := 0) rfl (Or.inr (Or.inl rfl))) (a_cons (d_tup (a_cons d_int (a_cons (d_un unD_neg d_int) (a_cons (d_var (i := 1) rfl (Or.inr (Or.inl rfl))) a_nil)))) a_nil))) (a_cons d_int a_nil)))) a_nil))) (g_tup rfl (gs_cons (g_set hu1 (d_var (i := 3) rfl (Or.inl rfl)) d_int) (gs_cons (g_set hu1 (d_var (i := 3) rfl (Or.inl rfl)) d_int) gs_nil))))) b_nil)
      (b_cons (s_set nd (i := 6) rfl (Or.inl rfl) (Or.inr rfl) (d_Ty (cD_tuple) (by rfl) c.n_tuple bt_tuple (a_cons (d_lc rfl nd (i_seq (d_var (i := 3) rfl (Or.inl rfl))) (blkOk_by (own := [("row", 7)]) (by kernel_rfl)) (by decide) (fun s H C cl fp => (g_name nd (i := 7) rfl (Or.inl rfl) (Or.inr rfl))) (fun s H C cl fp => ts_nil) (fun s H C cl fp => (d_Ty (cD_tuple) (by rfl) c.n_tuple bt_tuple (a_cons (d_var (i := 7) rfl (Or.inl rfl)) a_nil)))) a_nil)))
      (b_cons (s_if (t_val (d_call (ok__law_is_chart c) bd__law_is_chart (hr.mono (by decide)) rfl tk (a_cons (d_var (i := 6) rfl (Or.inl rfl)) a_nil))) (b_one (s_ret (d_var (i := 6) rfl (Or.inl rfl)))) b_nil)
      (b_cons (s_par3 (i := 8) (j := 9) (l := 10) rfl nd rfl rfl rfl (by decide) (by decide) (by decide) rfl rfl rfl (a_cons (d_call (ok__law_number c) bd__law_number (hr.mono (by decide)) rfl tk (a_cons (d_var (i := 0) rfl (Or.inr (Or.inl rfl))) (a_cons (d_var (i := 1) rfl (Or.inr (Or.inl rfl))) a_nil))) (a_cons (d_call (ok__law_number c) bd__law_number (hr.mono (by decide)) rfl tk (a_cons (d_var (i := 0) rfl (Or.inr (Or.inl rfl))) (a_cons (d_var (i := 1) rfl (Or.inr (Or.inl rfl))) a_nil))) (a_cons (d_call (ok__law_number c) bd__law_number (hr.mono (by decide)) rfl tk (a_cons (d_var (i := 0) rfl (Or.inr (Or.inl rfl))) (a_cons (d_var (i := 1) rfl (Or.inr (Or.inl rfl))) a_nil))) a_nil))))
      (b_cons (s_if (t_cmp (opD_eq hu) (d_var (i := 2) rfl (Or.inl rfl)) d_int rfl) (b_one (s_ret (d_tup (a_cons (d_tup (a_cons d_int (a_cons (d_var (i := 8) rfl (Or.inl rfl)) (a_cons (d_var (i := 9) rfl (Or.inl rfl)) a_nil)))) (a_cons (d_tup (a_cons d_int (a_cons (d_var (i := 10) rfl (Or.inl rfl)) (a_cons d_int a_nil)))) (a_cons (d_tup (a_cons d_int (a_cons d_int (a_cons d_int a_nil)))) a_nil)))))) b_nil)
      (b_one (s_ret (d_tup (a_cons (d_tup (a_cons d_int (a_cons (d_var (i := 8) rfl (Or.inl rfl)) (a_cons (d_var (i := 9) rfl (Or.inl rfl)) a_nil)))) (a_cons (d_tup (a_cons d_int (a_cons (d_if (t_cmp (opD_eq hu) (d_var (i := 2) rfl (Or.inl rfl)) d_int rfl) (d_un unD_neg d_int) d_int) (a_cons (d_var (i := 10) rfl (Or.inl rfl)) a_nil)))) (a_cons (d_tup (a_cons d_int (a_cons d_int (a_cons d_int a_nil)))) a_nil))))))))))))))

abbrev N__law_numbers : List Str := ["chart", "spot", "row"]
theorem sc__law_numbers : FnScope N__law_numbers ["chart", "spot"] (defScope st__law_numbers) := ⟨rfl, rfl, rfl, by decide +kernel, rfl, by decide +kernel, by decide +kernel⟩
theorem bd__law_numbers : BindOk "_law_numbers" st__law_numbers ["chart", "spot"] := fun _ _ _ _ _ _ us hl => match us, hl with | [_, _], _ => rfl
noncomputable def b__law_numbers : SM :=
      (sRet (mB tupleD (aCons (mLc (iSeq (mVar 0)) (gN 2) bYes (mOp addD (mOp addD (mOp mulD (mOp ixD (mVar 2) (mC (.int 0))) (mOp ixD (mVar 1) (mC (.int 0)))) (mOp mulD (mOp ixD (mVar 2) (mC (.int 1))) (mOp ixD (mVar 1) (mC (.int 1))))) (mOp mulD (mOp ixD (mVar 2) (mC (.int 2))) (mOp ixD (mVar 1) (mC (.int 2))))) [2]) aNil)))
noncomputable def m__law_numbers : FM := fnP N__law_numbers.length b__law_numbers
theorem ok__law_numbers (c : Fx K mg) : FD P w K mg base "_law_numbers" st__law_numbers ["chart", "spot"] 1 m__law_numbers := by
    obtain ⟨f, fd, G⟩ := c.g__law_numbers
    refine (fd_mk (k := 0) G sc__law_numbers fun X W cdv A outer s H E eX eW tk hp hr => ?_)
    have hu := hr.units
    have hu65 : X.A.units + 65 < cLine := by have := hr.un; omega
    have hu1 : X.A.units + 1 < cLine := by have := hr.un; omega
    have nd := sc__law_numbers.nd
    subst eX
    exact (b_one (s_ret (d_Ty (cD_tuple) (by rfl) c.n_tuple bt_tuple (a_cons (d_lc rfl nd (i_seq (d_var (i := 0) rfl (Or.inl rfl))) (blkOk_by (own := [("row", 2)]) (by kernel_rfl)) (by decide) (fun s H C cl fp => (g_name nd (i := 2) rfl (Or.inl rfl) (Or.inr rfl))) (fun s H C cl fp => ts_nil) (fun s H C cl fp => (d_bin opD_add (d_bin opD_add (d_bin opD_mul (d_ix hu1 (d_var (i := 2) rfl (Or.inl rfl)) d_int (fun _ _ => rfl)) (d_ix hu1 (d_var (i := 1) rfl (Or.inr (Or.inl rfl))) d_int (fun _ _ => rfl))) (d_bin opD_mul (d_ix hu1 (d_var (i := 2) rfl (Or.inl rfl)) d_int (fun _ _ => rfl)) (d_ix hu1 (d_var (i := 1) rfl (Or.inr (Or.inl rfl))) d_int (fun _ _ => rfl)))) (d_bin opD_mul (d_ix hu1 (d_var (i := 2) rfl (Or.inl rfl)) d_int (fun _ _ => rfl)) (d_ix hu1 (d_var (i := 1) rfl (Or.inr (Or.inl rfl))) d_int (fun _ _ => rfl)))))) a_nil))))

abbrev N__law_sent : List Str := ["chart", "spot", "x", "y", "w"]
theorem sc__law_sent : FnScope N__law_sent ["chart", "spot"] (defScope st__law_sent) := ⟨rfl, rfl, rfl, by decide +kernel, rfl, by decide +kernel, by decide +kernel⟩
theorem bd__law_sent : BindOk "_law_sent" st__law_sent ["chart", "spot"] := fun _ _ _ _ _ _ us hl => match us, hl with | [_, _], _ => rfl
noncomputable def b__law_sent : SM :=
      (sSeq (sAsg (mCall 2 m__law_numbers (aCons (mVar 0) (aCons (mVar 1) aNil))) (gT [(gN 2), (gN 3), (gN 4)]))
      (sRet (mIf (bVal (mOp gtD (mVar 4) (mC (.int 0)))) (mCall 3 m__law_spot (aCons (mVar 2) (aCons (mVar 3) (aCons (mVar 4) aNil)))) (mC .non))))
noncomputable def m__law_sent : FM := fnP N__law_sent.length b__law_sent
theorem ok__law_sent (c : Fx K mg) : FD P w K mg base "_law_sent" st__law_sent ["chart", "spot"] 3 m__law_sent := by
    obtain ⟨f, fd, G⟩ := c.g__law_sent
    refine (fd_mk (k := 2) G sc__law_sent fun X W cdv A outer s H E eX eW tk hp hr => ?_)
    have hu := hr.units
    have hu65 : X.A.units + 65 < cLine := by have := hr.un; omega
    have hu1 : X.A.units + 1 < cLine := by have := hr.un; omega
    have nd := sc__law_sent.nd
    subst eX
    exact (b_cons (s_asg (d_call (ok__law_numbers c) bd__law_numbers (hr.mono (by decide)) rfl tk (a_cons (d_var (i := 0) rfl (Or.inl rfl)) (a_cons (d_var (i := 1) rfl (Or.inl rfl)) a_nil))) (g_tup rfl (gs_cons (g_name nd (i := 2) rfl (Or.inl rfl) (Or.inr rfl)) (gs_cons (g_name nd (i := 3) rfl (Or.inl rfl) (Or.inr rfl)) (gs_cons (g_name nd (i := 4) rfl (Or.inl rfl) (Or.inr rfl)) gs_nil)))))
      (b_one (s_ret (d_if (t_cmp opD_gt (d_var (i := 4) rfl (Or.inl rfl)) d_int rfl) (d_call (ok__law_spot c) bd__law_spot (hr.mono (by decide)) rfl tk (a_cons (d_var (i := 2) rfl (Or.inl rfl)) (a_cons (d_var (i := 3) rfl (Or.inl rfl)) (a_cons (d_var (i := 4) rfl (Or.inl rfl)) a_nil)))) d_non))))

abbrev N__law_lowest : List Str := ["chart", "by", "row", "it"]
theorem sc__law_lowest : FnScope N__law_lowest ["chart"] (defScope st__law_lowest) := ⟨rfl, rfl, rfl, by decide +kernel, rfl, by decide +kernel, by decide +kernel⟩
theorem bd__law_lowest : BindOk "_law_lowest" st__law_lowest ["chart"] := fun _ _ _ _ _ _ us hl => match us, hl with | [_], _ => rfl
noncomputable def b__law_lowest : SM :=
      (sSeq (sAsg (mC (.int 0)) (gN 1))
      (sSeq (sFor (iSeq (mVar 0)) (gN 2) (sFor (iSeq (mVar 2)) (gN 3) (sAsg (mCall 2 m__law_gcd (aCons (mVar 1) (aCons (mVar 3) aNil))) (gN 1))))
      (sRet (mB tupleD (aCons (mLc (iSeq (mVar 0)) (gN 2) bYes (mB tupleD (aCons (mLc (iSeq (mVar 2)) (gN 3) bYes (mOp fdivD (mVar 3) (mVar 1)) [3]) aNil)) [2]) aNil)))))
noncomputable def m__law_lowest : FM := fnP N__law_lowest.length b__law_lowest
theorem ok__law_lowest (c : Fx K mg) : FD P w K mg base "_law_lowest" st__law_lowest ["chart"] 2 m__law_lowest := by
    obtain ⟨f, fd, G⟩ := c.g__law_lowest
    refine (fd_mk (k := 1) G sc__law_lowest fun X W cdv A outer s H E eX eW tk hp hr => ?_)
    have hu := hr.units
    have hu65 : X.A.units + 65 < cLine := by have := hr.un; omega
    have hu1 : X.A.units + 1 < cLine := by have := hr.un; omega
    have nd := sc__law_lowest.nd
    subst eX
    exact (b_cons (s_set nd (i := 1) rfl (Or.inr rfl) (Or.inl rfl) d_int)
      (b_cons (s_for hp rfl (i_seq (d_var (i := 0) rfl (Or.inl rfl))) (g_name nd (i := 2) rfl (Or.inl rfl) (Or.inr rfl)) (b_one (s_for hp rfl (i_seq (d_var (i := 2) rfl (Or.inl rfl))) (g_name nd (i := 3) rfl (Or.inl rfl) (Or.inr rfl)) (b_one (s_set nd (i := 1) rfl (Or.inr rfl) (Or.inl rfl) (d_call (ok__law_gcd c) bd__law_gcd (hr.mono (by decide)) rfl tk (a_cons (d_var (i := 1) rfl (Or.inr (Or.inl rfl))) (a_cons (d_var (i := 3) rfl (Or.inl rfl)) a_nil))))))))
      (b_one (s_ret (d_Ty (cD_tuple) (by rfl) c.n_tuple bt_tuple (a_cons (d_lc rfl nd (i_seq (d_var (i := 0) rfl (Or.inl rfl))) (blkOk_by (own := [("row", 2)]) (by kernel_rfl)) (by decide) (fun s H C cl fp => (g_name nd (i := 2) rfl (Or.inl rfl) (Or.inr rfl))) (fun s H C cl fp => ts_nil) (fun s H C cl fp => (d_Ty (cD_tuple) (by rfl) c.n_tuple bt_tuple (a_cons (d_lc rfl nd (i_seq (d_var (i := 2) rfl (Or.inl rfl))) (blkOk_by (own := [("it", 3)]) (by kernel_rfl)) (by decide) (fun s H C cl fp => (g_name nd (i := 3) rfl (Or.inl rfl) (Or.inr rfl))) (fun s H C cl fp => ts_nil) (fun s H C cl fp => (d_bin opD_fdiv (d_var (i := 3) rfl (Or.inl rfl)) (d_var (i := 1) rfl (Or.inr (Or.inl rfl)))))) a_nil)))) a_nil))))))

abbrev N__law_are_small : List Str := ["chart", "most", "it"]
theorem sc__law_are_small : FnScope N__law_are_small ["chart", "most"] (defScope st__law_are_small) := ⟨rfl, rfl, rfl, by decide +kernel, rfl, by decide +kernel, by decide +kernel⟩
theorem bd__law_are_small : BindOk "_law_are_small" st__law_are_small ["chart", "most"] := fun _ _ _ _ _ _ us hl => match us, hl with | [_, _], _ => rfl
noncomputable def b__law_are_small : SM :=
      (sRet (mOp leD (mB max1D (aCons (mLc (iSeq (mOp addD (mOp addD (mOp ixD (mVar 0) (mC (.int 0))) (mOp ixD (mVar 0) (mC (.int 1)))) (mOp ixD (mVar 0) (mC (.int 2))))) (gN 2) bYes (mB absD (aCons (mVar 2) aNil)) [2]) aNil)) (mVar 1)))
noncomputable def m__law_are_small : FM := fnP N__law_are_small.length b__law_are_small
theorem ok__law_are_small (c : Fx K mg) : FD P w K mg base "_law_are_small" st__law_are_small ["chart", "most"] 1 m__law_are_small := by
    obtain ⟨f, fd, G⟩ := c.g__law_are_small
    refine (fd_mk (k := 0) G sc__law_are_small fun X W cdv A outer s H E eX eW tk hp hr => ?_)
    have hu := hr.units
    have hu65 : X.A.units + 65 < cLine := by have := hr.un; omega
    have hu1 : X.A.units + 1 < cLine := by have := hr.un; omega
    have nd := sc__law_are_small.nd
    subst eX
    exact (b_one (s_ret (d_cmp opD_le (d_B (cD_max1 rfl) (by rfl) c.n_max bt_max (a_cons (d_lc rfl nd (i_seq (d_bin opD_add (d_bin opD_add (d_ix hu1 (d_var (i := 0) rfl (Or.inl rfl)) d_int (fun _ _ => rfl)) (d_ix hu1 (d_var (i := 0) rfl (Or.inl rfl)) d_int (fun _ _ => rfl))) (d_ix hu1 (d_var (i := 0) rfl (Or.inl rfl)) d_int (fun _ _ => rfl)))) (blkOk_by (own := [("it", 2)]) (by kernel_rfl)) (by decide) (fun s H C cl fp => (g_name nd (i := 2) rfl (Or.inl rfl) (Or.inr rfl))) (fun s H C cl fp => ts_nil) (fun s H C cl fp => (d_B (cD_abs) (by rfl) c.n_abs bt_abs (a_cons (d_var (i := 2) rfl (Or.inl rfl)) a_nil)))) a_nil)) (d_var (i := 1) rfl (Or.inl rfl)) rfl)))

abbrev N__law_border_spot : List Str := ["deck", "chart", "most", "a", "b", "c", "u", "v", "x", "y", "w", "found"]
theorem sc__law_border_spot : FnScope N__law_border_spot ["deck", "chart", "most"] (defScope st__law_border_spot) := ⟨rfl, rfl, rfl, by decide +kernel, rfl, by decide +kernel, by decide +kernel⟩
theorem bd__law_border_spot : BindOk "_law_border_spot" st__law_border_spot ["deck", "chart", "most"] := fun _ _ _ _ _ _ us hl => match us, hl with | [_, _, _], _ => rfl
noncomputable def b__law_border_spot : SM :=
      (sSeq (sAsg (mOp ixD (mVar 1) (mC (.int 2))) (gT [(gN 3), (gN 4), (gN 5)]))
      (sSeq (sPar [6, 7] (aCons (mCall 2 m__law_number (aCons (mVar 0) (aCons (mC (.int 3)) aNil))) (aCons (mCall 2 m__law_number (aCons (mVar 0) (aCons (mC (.int 3)) aNil))) aNil)))
      (sSeq (sAsg (mCall 2 m__law_pick (aCons (mVar 0) (aCons (mTup (aCons (mTup (aCons (mOp subD (mOp mulD (mVar 5) (mVar 6)) (mOp mulD (mVar 7) (mVar 4))) (aCons (mOp mulD (mVar 3) (mVar 7)) (aCons (mOp mulD (mUn negD (mVar 3)) (mVar 6)) aNil)))) (aCons (mTup (aCons (mOp mulD (mUn negD (mVar 4)) (mVar 7)) (aCons (mOp subD (mOp mulD (mVar 7) (mVar 3)) (mOp mulD (mVar 5) (mVar 6))) (aCons (mOp mulD (mVar 4) (mVar 6)) aNil)))) (aCons (mTup (aCons (mVar 4) (aCons (mUn negD (mVar 3)) (aCons (mC (.int 0)) aNil)))) (aCons (mTup (aCons (mUn negD (mVar 5)) (aCons (mC (.int 0)) (aCons (mVar 3) aNil)))) (aCons (mTup (aCons (mC (.int 0)) (aCons (mUn negD (mVar 5)) (aCons (mVar 4) aNil)))) aNil)))))) aNil))) (gT [(gN 8), (gN 9), (gN 10)]))
      (sSeq (sIf (bAnd (bVal (mOp neD (mVar 10) (mC (.int 0)))) (bVal (mOp eqD (mOp addD (mOp addD (mOp mulD (mVar 3) (mVar 8)) (mOp mulD (mVar 4) (mVar 9))) (mOp mulD (mVar 5) (mVar 10))) (mC (.int 0))))) (sSeq (sAsg (mCall 3 m__law_spot (aCons (mVar 8) (aCons (mVar 9) (aCons (mVar 10) aNil)))) (gN 11))
      (sIf (bVal (mCall 2 m__law_is_within (aCons (mVar 11) (aCons (mVar 2) aNil)))) (sRet (mVar 11)) sNil)) sNil)
      (sRet (mCall 2 m__law_any_spot (aCons (mVar 0) (aCons (mVar 2) aNil))))))))
noncomputable def m__law_border_spot : FM := fnP N__law_border_spot.length b__law_border_spot
theorem ok__law_border_spot (c : Fx K mg) : FD P w K mg base "_law_border_spot" st__law_border_spot ["deck", "chart", "most"] 5 m__law_border_spot := by
    obtain ⟨f, fd, G⟩ := c.g__law_border_spot
    refine (fd_mk (k := 4) G sc__law_border_spot fun X W cdv A outer s H E eX eW tk hp hr => ?_)
    have hu := hr.units
    have hu65 : X.A.units + 65 < cLine := by have := hr.un; omega
    have hu1 : X.A.units + 1 < cLine := by have := hr.un; omega
    have nd := sc__law_border_spot.nd
    subst eX
    exact (b_cons (s_asg (d_ix hu1 (d_var (i := 1) rfl (Or.inl rfl)) d_int (fun _ _ => rfl)) (g_tup rfl (gs_cons (g_name nd (i := 3) rfl (Or.inl rfl) (Or.inr rfl)) (gs_cons (g_name nd (i := 4) rfl (Or.inl rfl) (Or.inr rfl)) (gs_cons (g_name nd (i := 5) rfl (Or.inl rfl) (Or.inr rfl)) gs_nil)))))
      (b_cons (s_par2 (i := 6) (j := 7) rfl nd rfl rfl (by decide) rfl rfl (a_cons (d_call (ok__law_number c) bd__law_number (hr.mono (by decide)) rfl tk (a_cons (d_var (i := 0) rfl (Or.inl rfl)) (a_cons d_int a_nil))) (a_cons (d_call (ok__law_number c) bd__law_number (hr.mono (by decide)) rfl tk (a_cons (d_var (i := 0) rfl (Or.inl rfl)) (a_cons d_int a_nil))) a_nil)))
      (b_cons (s_asg (d_call (ok__law_pick c) bd__law_pick (hr.mono (by decide)) rfl tk (a_cons (d_var (i := 0) rfl (Or.inl rfl)) (a_cons (d_tup (a_cons (d_tup (a_cons (d_bin opD_sub (d_bin opD_mul (d_var (i := 5) rfl (Or.inl rfl)) (d_var (i := 6) rfl (Or.inl rfl))) (d_bin opD_mul (d_var (i := 7) rfl (Or.inl rfl)) (d_var (i := 4) rfl (Or.inl rfl)))) (a_cons (d_bin opD_mul (d_var (i := 3) rfl (Or.inl rfl)) (d_var (i := 7) rfl (Or.inl rfl))) (a_cons (d_bin opD_mul (d_un unD_neg (d_var (i := 3) rfl (Or.inl rfl))) (d_var (i := 6) rfl (Or.inl rfl))) a_nil)))) (a_cons (d_tup (a_cons (d_bin opD_mul (d_un unD_neg (d_var (i := 4) rfl (Or.inl rfl))) (d_var (i := 7) rfl (Or.inl rfl))) (a_cons (d_bin opD_sub (d_bin opD_mul (d_var (i := 7) rfl (Or.inl rfl)) (d_var (i := 3) rfl (Or.inl rfl))) (d_bin opD_mul (d_var (i := 5) rfl (Or.inl rfl)) (d_var (i := 6) rfl (Or.inl rfl)))) (a_cons (d_bin opD_mul (d_var (i := 4) rfl (Or.inl rfl)) (d_var (i := 6) rfl (Or.inl rfl))) a_nil)))) (a_cons (d_tup (a_cons (d_var (i := 4) rfl (Or.inl rfl)) (a_cons (d_un unD_neg (d_var (i := 3) rfl (Or.inl rfl))) (a_cons d_int a_nil)))) (a_cons (d_tup (a_cons (d_un unD_neg (d_var (i := 5) rfl (Or.inl rfl))) (a_cons d_int (a_cons (d_var (i := 3) rfl (Or.inl rfl)) a_nil)))) (a_cons (d_tup (a_cons d_int (a_cons (d_un unD_neg (d_var (i := 5) rfl (Or.inl rfl))) (a_cons (d_var (i := 4) rfl (Or.inl rfl)) a_nil)))) a_nil)))))) a_nil))) (g_tup rfl (gs_cons (g_name nd (i := 8) rfl (Or.inl rfl) (Or.inr rfl)) (gs_cons (g_name nd (i := 9) rfl (Or.inl rfl) (Or.inr rfl)) (gs_cons (g_name nd (i := 10) rfl (Or.inl rfl) (Or.inr rfl)) gs_nil)))))
      (b_cons (s_if (t_bool (w_and (t_cmp (opD_ne hu) (d_var (i := 10) rfl (Or.inl rfl)) d_int rfl) (w_and1 (t_cmp (opD_eq hu) (d_bin opD_add (d_bin opD_add (d_bin opD_mul (d_var (i := 3) rfl (Or.inl rfl)) (d_var (i := 8) rfl (Or.inl rfl))) (d_bin opD_mul (d_var (i := 4) rfl (Or.inl rfl)) (d_var (i := 9) rfl (Or.inl rfl)))) (d_bin opD_mul (d_var (i := 5) rfl (Or.inl rfl)) (d_var (i := 10) rfl (Or.inl rfl)))) d_int rfl)))) (b_cons (s_set nd (i := 11) rfl (Or.inl rfl) (Or.inr rfl) (d_call (ok__law_spot c) bd__law_spot (hr.mono (by decide)) rfl tk (a_cons (d_var (i := 8) rfl (Or.inl rfl)) (a_cons (d_var (i := 9) rfl (Or.inl rfl)) (a_cons (d_var (i := 10) rfl (Or.inl rfl)) a_nil)))))
      (b_one (s_if (t_val (d_call (ok__law_is_within c) bd__law_is_within (hr.mono (by decide)) rfl tk (a_cons (d_var (i := 11) rfl (Or.inl rfl)) (a_cons (d_var (i := 2) rfl (Or.inl rfl)) a_nil)))) (b_one (s_ret (d_var (i := 11) rfl (Or.inl rfl)))) b_nil))) b_nil)
      (b_one (s_ret (d_call (ok__law_any_spot c) bd__law_any_spot (hr.mono (by decide)) rfl tk (a_cons (d_var (i := 0) rfl (Or.inl rfl)) (a_cons (d_var (i := 2) rfl (Or.inl rfl)) a_nil)))))))))

abbrev N__law_are_alike : List Str := ["one", "other", "near", "far", "at", "it", "a", "b"]
theorem sc__law_are_alike : FnScope N__law_are_alike ["one", "other"] (defScope st__law_are_alike) := ⟨rfl, rfl, rfl, by decide +kernel, rfl, by decide +kernel, by decide +kernel⟩
theorem bd__law_are_alike : BindOk "_law_are_alike" st__law_are_alike ["one", "other"] := fun _ _ _ _ _ _ us hl => match us, hl with | [_, _], _ => rfl
noncomputable def b__law_are_alike : SM :=
      (sSeq (sAsg (mTup (aCons (mOp addD (mOp addD (mOp ixD (mVar 0) (mC (.int 0))) (mOp ixD (mVar 0) (mC (.int 1)))) (mOp ixD (mVar 0) (mC (.int 2)))) (aCons (mOp addD (mOp addD (mOp ixD (mVar 1) (mC (.int 0))) (mOp ixD (mVar 1) (mC (.int 1)))) (mOp ixD (mVar 1) (mC (.int 2)))) aNil))) (gT [(gN 2), (gN 3)]))
      (sSeq (sAsg (mOp ixD (mLc (iEnA (aCons (mVar 2) aNil)) (gT [(gN 4), (gN 5)]) (bVal (mOp neD (mVar 5) (mC (.int 0)))) (mVar 4) [4, 5]) (mC (.int 0))) (gN 4))
      (sSeq (sIf (bVal (mOp leD (mOp mulD (mOp ixD (mVar 2) (mVar 4)) (mOp ixD (mVar 3) (mVar 4))) (mC (.int 0)))) (sRet (mC (.bl false))) sNil)
      (sRet (mOp eq0D (mLc (iZipD (aCons (mVar 2) (aCons (mVar 3) aNil))) (gT [(gN 6), (gN 7)]) (bVal (mOp neD (mOp mulD (mVar 6) (mOp ixD (mVar 3) (mVar 4))) (mOp mulD (mVar 7) (mOp ixD (mVar 2) (mVar 4))))) (mC (.int 1)) [6, 7]) (mLst aNil))))))
noncomputable def m__law_are_alike : FM := fnP N__law_are_alike.length b__law_are_alike
theorem ok__law_are_alike (c : Fx K mg) : FD P w K mg base "_law_are_alike" st__law_are_alike ["one", "other"] 1 m__law_are_alike := by
    obtain ⟨f, fd, G⟩ := c.g__law_are_alike
    refine (fd_mk (k := 0) G sc__law_are_alike fun X W cdv A outer s H E eX eW tk hp hr => ?_)
    have hu := hr.units
    have hu65 : X.A.units + 65 < cLine := by have := hr.un; omega
    have hu1 : X.A.units + 1 < cLine := by have := hr.un; omega
    have nd := sc__law_are_alike.nd
    subst eX
    exact (b_cons (s_asg (d_tup (a_cons (d_bin opD_add (d_bin opD_add (d_ix hu1 (d_var (i := 0) rfl (Or.inl rfl)) d_int (fun _ _ => rfl)) (d_ix hu1 (d_var (i := 0) rfl (Or.inl rfl)) d_int (fun _ _ => rfl))) (d_ix hu1 (d_var (i := 0) rfl (Or.inl rfl)) d_int (fun _ _ => rfl))) (a_cons (d_bin opD_add (d_bin opD_add (d_ix hu1 (d_var (i := 1) rfl (Or.inl rfl)) d_int (fun _ _ => rfl)) (d_ix hu1 (d_var (i := 1) rfl (Or.inl rfl)) d_int (fun _ _ => rfl))) (d_ix hu1 (d_var (i := 1) rfl (Or.inl rfl)) d_int (fun _ _ => rfl))) a_nil))) (g_tup rfl (gs_cons (g_name nd (i := 2) rfl (Or.inr rfl) (Or.inl rfl)) (gs_cons (g_name nd (i := 3) rfl (Or.inr rfl) (Or.inl rfl)) gs_nil))))
      (b_cons (s_set nd (i := 4) rfl (Or.inr rfl) (Or.inl rfl) (d_ix hu1 (d_lc rfl nd (i_enumA (by rfl) c.n_enumerate (a_cons (d_var (i := 2) rfl (Or.inr (Or.inl rfl))) a_nil)) (blkOk_by (own := [("at", 4), ("it", 5)]) (by kernel_rfl)) (by decide) (fun s H C cl fp => (g_tup rfl (gs_cons (g_name nd (i := 4) rfl (Or.inl rfl) (Or.inr rfl)) (gs_cons (g_name nd (i := 5) rfl (Or.inl rfl) (Or.inr rfl)) gs_nil)))) (fun s H C cl fp => (ts_one (t_cmp (opD_ne hu) (d_var (i := 5) rfl (Or.inl rfl)) d_int rfl))) (fun s H C cl fp => (d_var (i := 4) rfl (Or.inl rfl)))) d_int (fun _ _ => rfl)))
      (b_cons (s_if (t_cmp opD_le (d_bin opD_mul (d_ix hu1 (d_var (i := 2) rfl (Or.inr (Or.inl rfl))) (d_var (i := 4) rfl (Or.inr (Or.inl rfl))) (fun _ _ => rfl)) (d_ix hu1 (d_var (i := 3) rfl (Or.inr (Or.inl rfl))) (d_var (i := 4) rfl (Or.inr (Or.inl rfl))) (fun _ _ => rfl))) d_int rfl) (b_one (s_ret d_bl)) b_nil)
      (b_one (s_ret (d_cmp (opD_eq0 hu) (d_lc rfl nd (i_zip (by rfl) c.n_zip (a_cons (d_var (i := 2) rfl (Or.inr (Or.inl rfl))) (a_cons (d_var (i := 3) rfl (Or.inr (Or.inl rfl))) a_nil))) (blkOk_by (own := [("a", 6), ("b", 7)]) (by kernel_rfl)) (by decide) (fun s H C cl fp => (g_tup rfl (gs_cons (g_name nd (i := 6) rfl (Or.inl rfl) (Or.inr rfl)) (gs_cons (g_name nd (i := 7) rfl (Or.inl rfl) (Or.inr rfl)) gs_nil)))) (fun s H C cl fp => (ts_one (t_cmp (opD_ne hu) (d_bin opD_mul (d_var (i := 6) rfl (Or.inl rfl)) (d_ix hu1 (d_var (i := 3) rfl (Or.inr (Or.inl rfl))) (d_var (i := 4) rfl (Or.inr (Or.inl rfl))) (fun _ _ => rfl))) (d_bin opD_mul (d_var (i := 7) rfl (Or.inl rfl)) (d_ix hu1 (d_var (i := 2) rfl (Or.inr (Or.inl rfl))) (d_var (i := 4) rfl (Or.inr (Or.inl rfl))) (fun _ _ => rfl))) rfl))) (fun s H C cl fp => d_int)) (d_lst a_nil) rfl))))))

abbrev N__law_is_paper : List Str := ["one", "other", "thing"]
theorem sc__law_is_paper : FnScope N__law_is_paper ["one", "other", "thing"] (defScope st__law_is_paper) := ⟨rfl, rfl, rfl, by decide +kernel, rfl, by decide +kernel, by decide +kernel⟩
theorem bd__law_is_paper : BindOk "_law_is_paper" st__law_is_paper ["one", "other", "thing"] := fun _ _ _ _ _ _ us hl => match us, hl with | [_, _, _], _ => rfl
noncomputable def b__law_is_paper : SM :=
      (sSeq (sIf (bOr (bNot (bVal (mB isiD (aCons (mVar 2) (aCons (mC (.ty "tuple")) aNil))))) (bOr (bVal (mOp eq0D (mVar 2) (mTup aNil))) (bNot (bVal (mB isiD (aCons (mOp ixD (mVar 2) (mC (.int 0))) (aCons (mC (.ty "str")) aNil))))))) (sRet (mC (.bl false))) sNil)
      (sSeq (sIf (bVal (mOp eqD (mOp ixD (mVar 2) (mC (.int 0))) (mC (.str "alike")))) (sRet (mAnd (mOp eqD (mB lenD (aCons (mVar 2) aNil)) (mC (.int 1))) (mCall 2 m__law_are_alike (aCons (mVar 0) (aCons (mVar 1) aNil))))) sNil)
      (sSeq (sIf (bOr (bVal (mOp neD (mOp ixD (mVar 2) (mC (.int 0))) (mC (.str "parted")))) (bOr (bVal (mOp neD (mB lenD (aCons (mVar 2) aNil)) (mC (.int 2)))) (bNot (bVal (mCall 1 m__law_is_spot (aCons (mOp ixD (mVar 2) (mC (.int 1))) aNil)))))) (sRet (mC (.bl false))) sNil)
      (sRet (mOp neD (mCall 2 m__law_sent (aCons (mVar 0) (aCons (mOp ixD (mVar 2) (mC (.int 1))) aNil))) (mCall 2 m__law_sent (aCons (mVar 1) (aCons (mOp ixD (mVar 2) (mC (.int 1))) aNil))))))))
noncomputable def m__law_is_paper : FM := fnP N__law_is_paper.length b__law_is_paper
theorem ok__law_is_paper (c : Fx K mg) : FD P w K mg base "_law_is_paper" st__law_is_paper ["one", "other", "thing"] 4 m__law_is_paper := by
    obtain ⟨f, fd, G⟩ := c.g__law_is_paper
    refine (fd_mk (k := 3) G sc__law_is_paper fun X W cdv A outer s H E eX eW tk hp hr => ?_)
    have hu := hr.units
    have hu65 : X.A.units + 65 < cLine := by have := hr.un; omega
    have hu1 : X.A.units + 1 < cLine := by have := hr.un; omega
    have nd := sc__law_is_paper.nd
    subst eX
    exact (b_cons (s_if (t_bool (w_or (t_not (t_val (d_B (cD_isi) (by rfl) c.n_isinstance bt_isinstance (a_cons (d_var (i := 2) rfl (Or.inl rfl)) (a_cons (d_ty (by rfl) c.n_tuple bt_tuple) a_nil))))) (w_or (t_cmp (opD_eq0 hu) (d_var (i := 2) rfl (Or.inl rfl)) (d_tup a_nil) rfl) (w_or1 (t_not (t_val (d_B (cD_isi) (by rfl) c.n_isinstance bt_isinstance (a_cons (d_ix hu1 (d_var (i := 2) rfl (Or.inl rfl)) d_int (fun _ _ => rfl)) (a_cons (d_ty (by rfl) c.n_str bt_str) a_nil))))))))) (b_one (s_ret d_bl)) b_nil)
      (b_cons (s_if (t_cmp (opD_eq hu) (d_ix hu1 (d_var (i := 2) rfl (Or.inl rfl)) d_int (fun _ _ => rfl)) d_str rfl) (b_one (s_ret (d_and (d_cmp (opD_eq hu) (d_B (cD_len) (by rfl) c.n_len bt_len (a_cons (d_var (i := 2) rfl (Or.inl rfl)) a_nil)) d_int rfl) (d_one (d_call (ok__law_are_alike c) bd__law_are_alike (hr.mono (by decide)) rfl tk (a_cons (d_var (i := 0) rfl (Or.inl rfl)) (a_cons (d_var (i := 1) rfl (Or.inl rfl)) a_nil))))))) b_nil)
      (b_cons (s_if (t_bool (w_or (t_cmp (opD_ne hu) (d_ix hu1 (d_var (i := 2) rfl (Or.inl rfl)) d_int (fun _ _ => rfl)) d_str rfl) (w_or (t_cmp (opD_ne hu) (d_B (cD_len) (by rfl) c.n_len bt_len (a_cons (d_var (i := 2) rfl (Or.inl rfl)) a_nil)) d_int rfl) (w_or1 (t_not (t_val (d_call (ok__law_is_spot c) bd__law_is_spot (hr.mono (by decide)) rfl tk (a_cons (d_ix hu1 (d_var (i := 2) rfl (Or.inl rfl)) d_int (fun _ _ => rfl)) a_nil)))))))) (b_one (s_ret d_bl)) b_nil)
      (b_one (s_ret (d_cmp (opD_ne hu) (d_call (ok__law_sent c) bd__law_sent (hr.mono (by decide)) rfl tk (a_cons (d_var (i := 0) rfl (Or.inl rfl)) (a_cons (d_ix hu1 (d_var (i := 2) rfl (Or.inl rfl)) d_int (fun _ _ => rfl)) a_nil))) (d_call (ok__law_sent c) bd__law_sent (hr.mono (by decide)) rfl tk (a_cons (d_var (i := 1) rfl (Or.inl rfl)) (a_cons (d_ix hu1 (d_var (i := 2) rfl (Or.inl rfl)) d_int (fun _ _ => rfl)) a_nil))) rfl))))))

abbrev N__law_scaled : List Str := ["chart", "by", "row", "it"]
theorem sc__law_scaled : FnScope N__law_scaled ["chart", "by"] (defScope st__law_scaled) := ⟨rfl, rfl, rfl, by decide +kernel, rfl, by decide +kernel, by decide +kernel⟩
theorem bd__law_scaled : BindOk "_law_scaled" st__law_scaled ["chart", "by"] := fun _ _ _ _ _ _ us hl => match us, hl with | [_, _], _ => rfl
noncomputable def b__law_scaled : SM :=
      (sRet (mB tupleD (aCons (mLc (iSeq (mVar 0)) (gN 2) bYes (mB tupleD (aCons (mLc (iSeq (mVar 2)) (gN 3) bYes (mOp mulD (mVar 3) (mVar 1)) [3]) aNil)) [2]) aNil)))
noncomputable def m__law_scaled : FM := fnP N__law_scaled.length b__law_scaled
theorem ok__law_scaled (c : Fx K mg) : FD P w K mg base "_law_scaled" st__law_scaled ["chart", "by"] 1 m__law_scaled := by
    obtain ⟨f, fd, G⟩ := c.g__law_scaled
    refine (fd_mk (k := 0) G sc__law_scaled fun X W cdv A outer s H E eX eW tk hp hr => ?_)
    have hu := hr.units
    have hu65 : X.A.units + 65 < cLine := by have := hr.un; omega
    have hu1 : X.A.units + 1 < cLine := by have := hr.un; omega
    have nd := sc__law_scaled.nd
    subst eX
    exact (b_one (s_ret (d_Ty (cD_tuple) (by rfl) c.n_tuple bt_tuple (a_cons (d_lc rfl nd (i_seq (d_var (i := 0) rfl (Or.inl rfl))) (blkOk_by (own := [("row", 2)]) (by kernel_rfl)) (by decide) (fun s H C cl fp => (g_name nd (i := 2) rfl (Or.inl rfl) (Or.inr rfl))) (fun s H C cl fp => ts_nil) (fun s H C cl fp => (d_Ty (cD_tuple) (by rfl) c.n_tuple bt_tuple (a_cons (d_lc rfl nd (i_seq (d_var (i := 2) rfl (Or.inl rfl))) (blkOk_by (own := [("it", 3)]) (by kernel_rfl)) (by decide) (fun s H C cl fp => (g_name nd (i := 3) rfl (Or.inl rfl) (Or.inr rfl))) (fun s H C cl fp => ts_nil) (fun s H C cl fp => (d_bin opD_mul (d_var (i := 3) rfl (Or.inl rfl)) (d_var (i := 1) rfl (Or.inr (Or.inl rfl)))))) a_nil)))) a_nil))))

abbrev N__law_near_chart : List Str := ["deck", "one", "way", "by", "at", "to", "rows", "row", "found", "it"]
theorem sc__law_near_chart : FnScope N__law_near_chart ["deck", "one"] (defScope st__law_near_chart) := ⟨rfl, rfl, rfl, by decide +kernel, rfl, by decide +kernel, by decide +kernel⟩
theorem bd__law_near_chart : BindOk "_law_near_chart" st__law_near_chart ["deck", "one"] := fun _ _ _ _ _ _ us hl => match us, hl with | [_, _], _ => rfl
noncomputable def b__law_near_chart : SM :=
      (sSeq (sAsg (mTup (aCons (mCall 2 m__law_draw (aCons (mVar 0) (aCons (mC (.int 9)) aNil))) (aCons (mCall 2 m__law_pick (aCons (mVar 0) (aCons (mTup (aCons (mC (.int 2)) (aCons (mUn negD (mC (.int 1))) (aCons (mC (.int 3)) (aCons (mUn negD (mC (.int 1))) (aCons (mUn negD (mC (.int 2))) (aCons (mC (.int 10)) (aCons (mC (.int 7)) aNil)))))))) aNil))) (aCons (mCall 2 m__law_draw (aCons (mVar 0) (aCons (mC (.int 3)) aNil))) (aCons (mCall 2 m__law_draw (aCons (mVar 0) (aCons (mC (.int 3)) aNil))) aNil))))) (gT [(gN 2), (gN 3), (gN 4), (gN 5)]))
      (sSeq (sAsg (mLcN (iSeq (mVar 1)) (gN 7) bYes (mListN (aCons (mVar 7) aNil)) [7]) (gN 6))
      (sSeq (sIf (bVal (mOp ltD (mVar 2) (mC (.int 3)))) (sAsg (mCall 2 m__law_scaled (aCons (mVar 1) (aCons (mVar 3) aNil))) (gN 8)) (sIf (bVal (mOp eqD (mVar 2) (mC (.int 3)))) (sSeq (sAsg (mOp addD (mOp ixD (mOp ixD (mVar 6) (mVar 4)) (mVar 5)) (mCall 2 m__law_pick (aCons (mVar 0) (aCons (mTup (aCons (mC (.int 1)) (aCons (mUn negD (mC (.int 1))) (aCons (mC (.int 2)) aNil)))) aNil)))) (gSet (mOp ixD (mVar 6) (mVar 4)) (mVar 5)))
      (sAsg (mB tupleD (aCons (mLc (iSeq (mVar 6)) (gN 7) bYes (mB tupleD (aCons (mVar 7) aNil)) [7]) aNil)) (gN 8))) (sIf (bVal (mOp eqD (mVar 2) (mC (.int 4)))) (sSeq (sAsg (mLc (iSeq (mOp ixD (mVar 6) (mVar 4))) (gN 9) bYes (mUn negD (mVar 9)) [9]) (gSet (mVar 6) (mVar 4)))
      (sAsg (mB tupleD (aCons (mLc (iSeq (mVar 6)) (gN 7) bYes (mB tupleD (aCons (mVar 7) aNil)) [7]) aNil)) (gN 8))) (sIf (bVal (mOp eqD (mVar 2) (mC (.int 5)))) (sSeq (sAsg (mLc (iSeq (mOp ixD (mVar 6) (mVar 4))) (gN 9) bYes (mOp mulD (mC (.int 2)) (mVar 9)) [9]) (gSet (mVar 6) (mVar 4)))
      (sAsg (mB tupleD (aCons (mLc (iSeq (mVar 6)) (gN 7) bYes (mB tupleD (aCons (mVar 7) aNil)) [7]) aNil)) (gN 8))) (sIf (bVal (mOp eqD (mVar 2) (mC (.int 6)))) (sAsg (mTup (aCons (mOp ixD (mVar 1) (mC (.int 1))) (aCons (mOp ixD (mVar 1) (mC (.int 0))) (aCons (mOp ixD (mVar 1) (mC (.int 2))) aNil)))) (gN 8)) (sIf (bVal (mOp eqD (mVar 2) (mC (.int 7)))) (sAsg (mCall 2 m__law_scaled (aCons (mCall 1 m__law_lowest (aCons (mVar 1) aNil)) (aCons (mCall 2 m__law_pick (aCons (mVar 0) (aCons (mTup (aCons (mC (.int 1)) (aCons (mC (.int 2)) (aCons (mC (.int 5)) aNil)))) aNil))) aNil))) (gN 8)) (sAsg (mCall 2 m__law_chart (aCons (mVar 0) (aCons (mCall 2 m__law_pick (aCons (mVar 0) (aCons (mTup (aCons (mC (.int 2)) (aCons (mC (.int 3)) (aCons (mOp powD (mC (.int 10)) (mC (.int 6))) aNil)))) aNil))) aNil))) (gN 8))))))))
      (sRet (mIf (bAnd (bVal (mCall 1 m__law_is_chart (aCons (mVar 8) aNil))) (bVal (mCall 2 m__law_are_small (aCons (mVar 8) (aCons (mOp powD (mC (.int 10)) (mC (.int 6))) aNil))))) (mVar 8) (mVar 1))))))
noncomputable def m__law_near_chart : FM := (fun ds S => gcR S (fnP N__law_near_chart.length b__law_near_chart ds S))
theorem ok__law_near_chart (c : Fx K mg) : FD P w K mg base "_law_near_chart" st__law_near_chart ["deck", "one"] 5 m__law_near_chart := by
    obtain ⟨f, fd, G⟩ := c.g__law_near_chart
    refine (fd_mk (k := 4) G sc__law_near_chart fun X W cdv A outer s H E eX eW tk hp hr => ?_).gc
    have hu := hr.units
    have hu65 : X.A.units + 65 < cLine := by have := hr.un; omega
    have hu1 : X.A.units + 1 < cLine := by have := hr.un; omega
    have nd := sc__law_near_chart.nd
    subst eX
    exact (b_cons (s_asg (d_tup (a_cons (d_call (ok__law_draw c) bd__law_draw (hr.mono (by decide)) rfl tk (a_cons (d_var (i := 0) rfl (Or.inl rfl)) (a_cons d_int a_nil))) (a_cons (d_call (ok__law_pick c) bd__law_pick (hr.mono (by decide)) rfl tk (a_cons (d_var (i := 0) rfl (Or.inl rfl)) (a_cons (d_tup (a_cons d_int (a_cons (d_un unD_neg d_int) (a_cons d_int (a_cons (d_un unD_neg d_int) (a_cons (d_un unD_neg d_int) (a_cons d_int (a_cons d_int a_nil)))))))) a_nil))) (a_cons (d_call (ok__law_draw c) bd__law_draw (hr.mono (by decide)) rfl tk (a_cons (d_var (i := 0) rfl (Or.inl rfl)) (a_cons d_int a_nil))) (a_cons (d_call (ok__law_draw c) bd__law_draw (hr.mono (by decide)) rfl tk (a_cons (d_var (i := 0) rfl (Or.inl rfl)) (a_cons d_int a_nil))) a_nil))))) (g_tup rfl (gs_cons (g_name nd (i := 2) rfl (Or.inl rfl) (Or.inr rfl)) (gs_cons (g_name nd (i := 3) rfl (Or.inl rfl) (Or.inr rfl)) (gs_cons (g_name nd (i := 4) rfl (Or.inl rfl) (Or.inr rfl)) (gs_cons (g_name nd (i := 5) rfl (Or.inl rfl) (Or.inr rfl)) gs_nil))))))
      (b_cons (s_setLcN (j := 6) rfl nd rfl rfl rfl (i_seq (d_var (i := 1) rfl (Or.inl rfl))) (blkOk_by (own := [("row", 7)]) (by kernel_rfl)) (by decide) (fun s H C cl fp => (g_name nd (i := 7) rfl (Or.inl rfl) (Or.inr rfl))) (fun s H C cl fp => ts_nil) (fun s H C cl fp => (d_listN (by rfl) c.n_list (a_cons (d_var (i := 7) rfl (Or.inl rfl)) a_nil))))
      (b_cons (s_if (t_cmp opD_lt (d_var (i := 2) rfl (Or.inl rfl)) d_int rfl) (b_one (s_set nd (i := 8) rfl (Or.inl rfl) (Or.inr rfl) (d_call (ok__law_scaled c) bd__law_scaled (hr.mono (by decide)) rfl tk (a_cons (d_var (i := 1) rfl (Or.inl rfl)) (a_cons (d_var (i := 3) rfl (Or.inl rfl)) a_nil))))) (b_one (s_if (t_cmp (opD_eq hu) (d_var (i := 2) rfl (Or.inl rfl)) d_int rfl) (b_cons (s_asg (d_bin opD_add (d_ix hu1 (d_ix hu1 (d_var (i := 6) rfl (Or.inl rfl)) (d_var (i := 4) rfl (Or.inl rfl)) (fun _ _ => rfl)) (d_var (i := 5) rfl (Or.inl rfl)) (fun _ _ => rfl)) (d_call (ok__law_pick c) bd__law_pick (hr.mono (by decide)) rfl tk (a_cons (d_var (i := 0) rfl (Or.inl rfl)) (a_cons (d_tup (a_cons d_int (a_cons (d_un unD_neg d_int) (a_cons d_int a_nil)))) a_nil)))) (g_set hu1 (d_ix hu1 (d_var (i := 6) rfl (Or.inl rfl)) (d_var (i := 4) rfl (Or.inl rfl)) (fun _ _ => rfl)) (d_var (i := 5) rfl (Or.inl rfl))))
      (b_one (s_set nd (i := 8) rfl (Or.inl rfl) (Or.inr rfl) (d_Ty (cD_tuple) (by rfl) c.n_tuple bt_tuple (a_cons (d_lc rfl nd (i_seq (d_var (i := 6) rfl (Or.inl rfl))) (blkOk_by (own := [("row", 7)]) (by kernel_rfl)) (by decide) (fun s H C cl fp => (g_name nd (i := 7) rfl (Or.inl rfl) (Or.inr rfl))) (fun s H C cl fp => ts_nil) (fun s H C cl fp => (d_Ty (cD_tuple) (by rfl) c.n_tuple bt_tuple (a_cons (d_var (i := 7) rfl (Or.inl rfl)) a_nil)))) a_nil))))) (b_one (s_if (t_cmp (opD_eq hu) (d_var (i := 2) rfl (Or.inl rfl)) d_int rfl) (b_cons (s_asg (d_lc rfl nd (i_seq (d_ix hu1 (d_var (i := 6) rfl (Or.inl rfl)) (d_var (i := 4) rfl (Or.inl rfl)) (fun _ _ => rfl))) (blkOk_by (own := [("it", 9)]) (by kernel_rfl)) (by decide) (fun s H C cl fp => (g_name nd (i := 9) rfl (Or.inl rfl) (Or.inr rfl))) (fun s H C cl fp => ts_nil) (fun s H C cl fp => (d_un unD_neg (d_var (i := 9) rfl (Or.inl rfl))))) (g_set hu1 (d_var (i := 6) rfl (Or.inl rfl)) (d_var (i := 4) rfl (Or.inl rfl))))
      (b_one (s_set nd (i := 8) rfl (Or.inl rfl) (Or.inr rfl) (d_Ty (cD_tuple) (by rfl) c.n_tuple bt_tuple (a_cons (d_lc rfl nd (i_seq (d_var (i := 6) rfl (Or.inl rfl))) (blkOk_by (own := [("row", 7)]) (by kernel_rfl)) (by decide) (fun s H C cl fp => (g_name nd (i := 7) rfl (Or.inl rfl) (Or.inr rfl))) (fun s H C cl fp => ts_nil) (fun s H C cl fp => (d_Ty (cD_tuple) (by rfl) c.n_tuple bt_tuple (a_cons (d_var (i := 7) rfl (Or.inl rfl)) a_nil)))) a_nil))))) (b_one (s_if (t_cmp (opD_eq hu) (d_var (i := 2) rfl (Or.inl rfl)) d_int rfl) (b_cons (s_asg (d_lc rfl nd (i_seq (d_ix hu1 (d_var (i := 6) rfl (Or.inl rfl)) (d_var (i := 4) rfl (Or.inl rfl)) (fun _ _ => rfl))) (blkOk_by (own := [("it", 9)]) (by kernel_rfl)) (by decide) (fun s H C cl fp => (g_name nd (i := 9) rfl (Or.inl rfl) (Or.inr rfl))) (fun s H C cl fp => ts_nil) (fun s H C cl fp => (d_bin opD_mul d_int (d_var (i := 9) rfl (Or.inl rfl))))) (g_set hu1 (d_var (i := 6) rfl (Or.inl rfl)) (d_var (i := 4) rfl (Or.inl rfl))))
      (b_one (s_set nd (i := 8) rfl (Or.inl rfl) (Or.inr rfl) (d_Ty (cD_tuple) (by rfl) c.n_tuple bt_tuple (a_cons (d_lc rfl nd (i_seq (d_var (i := 6) rfl (Or.inl rfl))) (blkOk_by (own := [("row", 7)]) (by kernel_rfl)) (by decide) (fun s H C cl fp => (g_name nd (i := 7) rfl (Or.inl rfl) (Or.inr rfl))) (fun s H C cl fp => ts_nil) (fun s H C cl fp => (d_Ty (cD_tuple) (by rfl) c.n_tuple bt_tuple (a_cons (d_var (i := 7) rfl (Or.inl rfl)) a_nil)))) a_nil))))) (b_one (s_if (t_cmp (opD_eq hu) (d_var (i := 2) rfl (Or.inl rfl)) d_int rfl) (b_one (s_set nd (i := 8) rfl (Or.inl rfl) (Or.inr rfl) (d_tup (a_cons (d_ix hu1 (d_var (i := 1) rfl (Or.inl rfl)) d_int (fun _ _ => rfl)) (a_cons (d_ix hu1 (d_var (i := 1) rfl (Or.inl rfl)) d_int (fun _ _ => rfl)) (a_cons (d_ix hu1 (d_var (i := 1) rfl (Or.inl rfl)) d_int (fun _ _ => rfl)) a_nil)))))) (b_one (s_if (t_cmp (opD_eq hu) (d_var (i := 2) rfl (Or.inl rfl)) d_int rfl) (b_one (s_set nd (i := 8) rfl (Or.inl rfl) (Or.inr rfl) (d_call (ok__law_scaled c) bd__law_scaled (hr.mono (by decide)) rfl tk (a_cons (d_call (ok__law_lowest c) bd__law_lowest (hr.mono (by decide)) rfl tk (a_cons (d_var (i := 1) rfl (Or.inl rfl)) a_nil)) (a_cons (d_call (ok__law_pick c) bd__law_pick (hr.mono (by decide)) rfl tk (a_cons (d_var (i := 0) rfl (Or.inl rfl)) (a_cons (d_tup (a_cons d_int (a_cons d_int (a_cons d_int a_nil)))) a_nil))) a_nil))))) (b_one (s_set nd (i := 8) rfl (Or.inl rfl) (Or.inr rfl) (d_call (ok__law_chart c) bd__law_chart (hr.mono (by decide)) rfl tk (a_cons (d_var (i := 0) rfl (Or.inl rfl)) (a_cons (d_call (ok__law_pick c) bd__law_pick (hr.mono (by decide)) rfl tk (a_cons (d_var (i := 0) rfl (Or.inl rfl)) (a_cons (d_tup (a_cons d_int (a_cons d_int (a_cons (d_bin opD_pow d_int d_int) a_nil)))) a_nil))) a_nil))))))))))))))))
      (b_one (s_ret (d_if (t_bool (w_and (t_val (d_call (ok__law_is_chart c) bd__law_is_chart (hr.mono (by decide)) rfl tk (a_cons (d_var (i := 8) rfl (Or.inl rfl)) a_nil))) (w_and1 (t_val (d_call (ok__law_are_small c) bd__law_are_small (hr.mono (by decide)) rfl tk (a_cons (d_var (i := 8) rfl (Or.inl rfl)) (a_cons (d_bin opD_pow d_int d_int) a_nil))))))) (d_var (i := 8) rfl (Or.inl rfl)) (d_var (i := 1) rfl (Or.inl rfl))))))))

abbrev N__law_things : List Str := ["deck", "one", "other", "told", "spots", "a", "found", "go", "spot", "it"]
theorem sc__law_things : FnScope N__law_things ["deck", "one", "other", "told"] (defScope st__law_things) := ⟨rfl, rfl, rfl, by decide +kernel, rfl, by decide +kernel, by decide +kernel⟩
theorem bd__law_things : BindOk "_law_things" st__law_things ["deck", "one", "other", "told"] := fun _ _ _ _ _ _ us hl => match us, hl with | [_, _, _, _], _ => rfl
noncomputable def b__law_things : SM :=
      (sSeq (sAsg (mLst (aCons (mCall 2 m__law_any_spot (aCons (mVar 0) (aCons (mCall 2 m__law_pick (aCons (mVar 0) (aCons (mTup (aCons (mC (.int 3)) (aCons (mOp powD (mC (.int 10)) (mC (.int 6))) (aCons (mC (.int 9)) aNil)))) aNil))) aNil))) (aCons (mCall 3 m__law_border_spot (aCons (mVar 0) (aCons (mVar 1) (aCons (mOp powD (mC (.int 10)) (mC (.int 6))) aNil)))) (aCons (mCall 3 m__law_border_spot (aCons (mVar 0) (aCons (mVar 2) (aCons (mOp powD (mC (.int 10)) (mC (.int 6))) aNil)))) aNil)))) (gN 4))
      (sSeq (sAsg (mCall 2 m__law_any_spot (aCons (mVar 0) (aCons (mC (.int 9)) aNil))) (gN 5))
      (sSeq (sAsg (mOp addD (mVar 4) (mLst (aCons (mCall 3 m__law_spot (aCons (mC (.int 0)) (aCons (mOp ixD (mVar 5) (mC (.int 1))) (aCons (mOp ixD (mVar 5) (mC (.int 2))) aNil)))) (aCons (mCall 3 m__law_spot (aCons (mOp ixD (mVar 5) (mC (.int 0))) (aCons (mC (.int 0)) (aCons (mOp ixD (mVar 5) (mC (.int 2))) aNil)))) (aCons (mTup (aCons (mC (.int 0)) (aCons (mC (.int 0)) (aCons (mC (.int 1)) aNil)))) (aCons (mCall 3 m__law_spot (aCons (mOp ixD (mVar 5) (mC (.int 0))) (aCons (mOp ixD (mVar 5) (mC (.int 0))) (aCons (mOp ixD (mVar 5) (mC (.int 2))) aNil)))) aNil)))))) (gN 4))
      (sSeq (sAsg (mLst (aCons (mVar 3) (aCons (mTup (aCons (mC (.str "alike")) aNil)) (aCons (mTup (aCons (mC (.str "parted")) aNil)) (aCons (mTup (aCons (mC (.str "alike")) (aCons (mC (.int 0)) aNil))) (aCons (mLst (aCons (mC (.str "alike")) aNil)) (aCons (mC (.str "alike")) (aCons (mCall 2 m__law_odd (aCons (mVar 0) (aCons (mC .non) aNil))) aNil)))))))) (gN 6))
      (sSeq (sAsg (mOp addD (mVar 6) (mLc (iRng1 (aCons (mC (.int 4)) aNil)) (gN 7) bYes (mTup (aCons (mC (.str "parted")) (aCons (mCall 2 m__law_pick (aCons (mVar 0) (aCons (mVar 4) aNil))) aNil))) [7])) (gN 6))
      (sSeq (sAsg (mCall 2 m__law_pick (aCons (mVar 0) (aCons (mVar 4) aNil))) (gN 8))
      (sSeq (sAsg (mOp addD (mVar 6) (mLst (aCons (mTup (aCons (mC (.str "parted")) (aCons (mB tupleD (aCons (mLc (iSeq (mVar 8)) (gN 9) bYes (mOp mulD (mC (.int 2)) (mVar 9)) [9]) aNil)) aNil))) (aCons (mTup (aCons (mC (.str "parted")) (aCons (mB tupleD (aCons (mLc (iSeq (mVar 8)) (gN 9) bYes (mUn negD (mVar 9)) [9]) aNil)) aNil))) (aCons (mTup (aCons (mC (.str "parted")) (aCons (mB listD (aCons (mVar 8) aNil)) aNil))) aNil))))) (gN 6))
      (sRet (mOp addD (mVar 6) (mLst (aCons (mCall 2 (m__law_bent 5) (aCons (mVar 0) (aCons (mTup (aCons (mC (.str "parted")) (aCons (mVar 8) aNil))) aNil))) (aCons (mTup (aCons (mC (.str "parted")) (aCons (mVar 8) (aCons (mC (.int 0)) aNil)))) (aCons (mTup (aCons (mC (.str "Parted")) (aCons (mVar 8) aNil))) (aCons (mTup (aCons (mC (.str "alike")) (aCons (mVar 8) aNil))) (aCons (mTup (aCons (mC (.str "parted")) (aCons (mTup (aCons (mOp ixD (mVar 8) (mC (.int 0))) (aCons (mOp ixD (mVar 8) (mC (.int 1))) (aCons (mC (.bl true)) aNil)))) aNil))) aNil)))))))))))))))
noncomputable def m__law_things : FM := fnP N__law_things.length b__law_things
theorem ok__law_things (c : Fx K mg) : FD P w K mg base "_law_things" st__law_things ["deck", "one", "other", "told"] 10 m__law_things := by
    obtain ⟨f, fd, G⟩ := c.g__law_things
    refine (fd_mk (k := 9) G sc__law_things fun X W cdv A outer s H E eX eW tk hp hr => ?_)
    have hu := hr.units
    have hu65 : X.A.units + 65 < cLine := by have := hr.un; omega
    have hu1 : X.A.units + 1 < cLine := by have := hr.un; omega
    have nd := sc__law_things.nd
    subst eX
    exact (b_cons (s_set nd (i := 4) rfl (Or.inr rfl) (Or.inl rfl) (d_lst (a_cons (d_call (ok__law_any_spot c) bd__law_any_spot (hr.mono (by decide)) rfl tk (a_cons (d_var (i := 0) rfl (Or.inr (Or.inl rfl))) (a_cons (d_call (ok__law_pick c) bd__law_pick (hr.mono (by decide)) rfl tk (a_cons (d_var (i := 0) rfl (Or.inr (Or.inl rfl))) (a_cons (d_tup (a_cons d_int (a_cons (d_bin opD_pow d_int d_int) (a_cons d_int a_nil)))) a_nil))) a_nil))) (a_cons (d_call (ok__law_border_spot c) bd__law_border_spot (hr.mono (by decide)) rfl tk (a_cons (d_var (i := 0) rfl (Or.inr (Or.inl rfl))) (a_cons (d_var (i := 1) rfl (Or.inl rfl)) (a_cons (d_bin opD_pow d_int d_int) a_nil)))) (a_cons (d_call (ok__law_border_spot c) bd__law_border_spot (hr.mono (by decide)) rfl tk (a_cons (d_var (i := 0) rfl (Or.inr (Or.inl rfl))) (a_cons (d_var (i := 2) rfl (Or.inl rfl)) (a_cons (d_bin opD_pow d_int d_int) a_nil)))) a_nil)))))
      (b_cons (s_set nd (i := 5) rfl (Or.inl rfl) (Or.inr rfl) (d_call (ok__law_any_spot c) bd__law_any_spot (hr.mono (by decide)) rfl tk (a_cons (d_var (i := 0) rfl (Or.inr (Or.inl rfl))) (a_cons d_int a_nil))))
      (b_cons (s_set nd (i := 4) rfl (Or.inr rfl) (Or.inl rfl) (d_bin opD_add (d_var (i := 4) rfl (Or.inr (Or.inl rfl))) (d_lst (a_cons (d_call (ok__law_spot c) bd__law_spot (hr.mono (by decide)) rfl tk (a_cons d_int (a_cons (d_ix hu1 (d_var (i := 5) rfl (Or.inl rfl)) d_int (fun _ _ => rfl)) (a_cons (d_ix hu1 (d_var (i := 5) rfl (Or.inl rfl)) d_int (fun _ _ => rfl)) a_nil)))) (a_cons (d_call (ok__law_spot c) bd__law_spot (hr.mono (by decide)) rfl tk (a_cons (d_ix hu1 (d_var (i := 5) rfl (Or.inl rfl)) d_int (fun _ _ => rfl)) (a_cons d_int (a_cons (d_ix hu1 (d_var (i := 5) rfl (Or.inl rfl)) d_int (fun _ _ => rfl)) a_nil)))) (a_cons (d_tup (a_cons d_int (a_cons d_int (a_cons d_int a_nil)))) (a_cons (d_call (ok__law_spot c) bd__law_spot (hr.mono (by decide)) rfl tk (a_cons (d_ix hu1 (d_var (i := 5) rfl (Or.inl rfl)) d_int (fun _ _ => rfl)) (a_cons (d_ix hu1 (d_var (i := 5) rfl (Or.inl rfl)) d_int (fun _ _ => rfl)) (a_cons (d_ix hu1 (d_var (i := 5) rfl (Or.inl rfl)) d_int (fun _ _ => rfl)) a_nil)))) a_nil)))))))
      (b_cons (s_set nd (i := 6) rfl (Or.inl rfl) (Or.inr rfl) (d_lst (a_cons (d_var (i := 3) rfl (Or.inl rfl)) (a_cons (d_tup (a_cons d_str a_nil)) (a_cons (d_tup (a_cons d_str a_nil)) (a_cons (d_tup (a_cons d_str (a_cons d_int a_nil))) (a_cons (d_lst (a_cons d_str a_nil)) (a_cons d_str (a_cons (d_call (ok__law_odd c) bd__law_odd (hr.mono (by decide)) rfl tk (a_cons (d_var (i := 0) rfl (Or.inr (Or.inl rfl))) (a_cons d_non a_nil))) a_nil)))))))))
      (b_cons (s_set nd (i := 6) rfl (Or.inl rfl) (Or.inr rfl) (d_bin opD_add (d_var (i := 6) rfl (Or.inl rfl)) (d_lc rfl nd (i_rng1 (by rfl) c.n_range (a_cons d_int a_nil)) (blkOk_by (own := [("go", 7)]) (by kernel_rfl)) (by decide) (fun s H C cl fp => (g_name nd (i := 7) rfl (Or.inl rfl) (Or.inr rfl))) (fun s H C cl fp => ts_nil) (fun s H C cl fp => (d_tup (a_cons d_str (a_cons (d_call (ok__law_pick c) bd__law_pick (hr.mono (by decide)) rfl takesW0 (a_cons (d_var (i := 0) rfl (Or.inr (Or.inl rfl))) (a_cons (d_var (i := 4) rfl (Or.inr (Or.inl rfl))) a_nil))) a_nil)))))))
      (b_cons (s_set nd (i := 8) rfl (Or.inl rfl) (Or.inr rfl) (d_call (ok__law_pick c) bd__law_pick (hr.mono (by decide)) rfl tk (a_cons (d_var (i := 0) rfl (Or.inr (Or.inl rfl))) (a_cons (d_var (i := 4) rfl (Or.inr (Or.inl rfl))) a_nil))))
      (b_cons (s_set nd (i := 6) rfl (Or.inl rfl) (Or.inr rfl) (d_bin opD_add (d_var (i := 6) rfl (Or.inl rfl)) (d_lst (a_cons (d_tup (a_cons d_str (a_cons (d_Ty (cD_tuple) (by rfl) c.n_tuple bt_tuple (a_cons (d_lc rfl nd (i_seq (d_var (i := 8) rfl (Or.inl rfl))) (blkOk_by (own := [("it", 9)]) (by kernel_rfl)) (by decide) (fun s H C cl fp => (g_name nd (i := 9) rfl (Or.inl rfl) (Or.inr rfl))) (fun s H C cl fp => ts_nil) (fun s H C cl fp => (d_bin opD_mul d_int (d_var (i := 9) rfl (Or.inl rfl))))) a_nil)) a_nil))) (a_cons (d_tup (a_cons d_str (a_cons (d_Ty (cD_tuple) (by rfl) c.n_tuple bt_tuple (a_cons (d_lc rfl nd (i_seq (d_var (i := 8) rfl (Or.inl rfl))) (blkOk_by (own := [("it", 9)]) (by kernel_rfl)) (by decide) (fun s H C cl fp => (g_name nd (i := 9) rfl (Or.inl rfl) (Or.inr rfl))) (fun s H C cl fp => ts_nil) (fun s H C cl fp => (d_un unD_neg (d_var (i := 9) rfl (Or.inl rfl))))) a_nil)) a_nil))) (a_cons (d_tup (a_cons d_str (a_cons (d_Ty (cD_list) (by rfl) c.n_list bt_list (a_cons (d_var (i := 8) rfl (Or.inl rfl)) a_nil)) a_nil))) a_nil))))))
      (b_one (s_ret (d_bin opD_add (d_var (i := 6) rfl (Or.inl rfl)) (d_lst (a_cons (d_call (ok__law_bent c 5) bd__law_bent (hr.mono (by decide)) rfl tk (a_cons (d_var (i := 0) rfl (Or.inr (Or.inl rfl))) (a_cons (d_tup (a_cons d_str (a_cons (d_var (i := 8) rfl (Or.inl rfl)) a_nil))) a_nil))) (a_cons (d_tup (a_cons d_str (a_cons (d_var (i := 8) rfl (Or.inl rfl)) (a_cons d_int a_nil)))) (a_cons (d_tup (a_cons d_str (a_cons (d_var (i := 8) rfl (Or.inl rfl)) a_nil))) (a_cons (d_tup (a_cons d_str (a_cons (d_var (i := 8) rfl (Or.inl rfl)) a_nil))) (a_cons (d_tup (a_cons d_str (a_cons (d_tup (a_cons (d_ix hu1 (d_var (i := 8) rfl (Or.inl rfl)) d_int (fun _ _ => rfl)) (a_cons (d_ix hu1 (d_var (i := 8) rfl (Or.inl rfl)) d_int (fun _ _ => rfl)) (a_cons d_bl a_nil)))) a_nil))) a_nil))))))))))))))))

abbrev N_law : List Str := ["script", "deck", "go", "one", "other", "told", "text", "at", "thing", "due", "was", "near"]
theorem sc_law : FnScope N_law ["script"] (defScope st_law) := ⟨rfl, rfl, rfl, by decide +kernel, rfl, by decide +kernel, by decide +kernel⟩
theorem bd_law : BindOk "law" st_law ["script"] := fun _ _ _ _ _ _ us hl => match us, hl with | [_], _ => rfl
noncomputable def b_law : SM :=
      (sSeq (sAsg (mCall 1 m__law_deck (aCons (mVar 0) aNil)) (gN 1))
      (sSeq (sFor (iRng1 (aCons (mC (.int 4)) aNil)) (gN 2) (sSeq (sAsg (mCall 2 m__law_chart (aCons (mVar 1) (aCons (mCall 2 m__law_pick (aCons (mVar 1) (aCons (mTup (aCons (mC (.int 2)) (aCons (mC (.int 3)) (aCons (mOp powD (mC (.int 10)) (mC (.int 6))) (aCons (mC (.int 9)) (aCons (mC (.int 300)) aNil)))))) aNil))) aNil))) (gN 3))
      (sSeq (sAsg (mCall 2 m__law_near_chart (aCons (mVar 1) (aCons (mVar 3) aNil))) (gN 4))
      (sSeq (sIf (bVal (mOp eqD (mVar 2) (mC (.int 3)))) (sPar [3, 4] (aCons (mVar 4) (aCons (mVar 3) aNil))) sNil)
      (sSeq (sAsg (mIf (bVal (mOp gtD (mVar 2) (mC (.int 0)))) (mCall 2 m_judge_charts (aCons (mVar 3) (aCons (mVar 4) aNil))) (mCallK 2 0 2 [1, 0] m_judge_charts aNil (aCons (mVar 4) (aCons (mVar 3) aNil)))) (gN 5))
      (sSeq (sIf (bOr (bNot (bVal (mCall 3 m__law_is_paper (aCons (mVar 3) (aCons (mVar 4) (aCons (mVar 5) aNil)))))) (bVal (mOp neD (mOp eqD (mOp ixD (mVar 5) (mC (.int 0))) (mC (.str "alike"))) (mCall 2 m__law_are_alike (aCons (mVar 3) (aCons (mVar 4) aNil)))))) (sRet (mC (.bl false))) sNil)
      (sSeq (sAsg (mB reprD (aCons (mVar 5) aNil)) (gN 6))
      (sSeq (sFor (iEnA (aCons (mOp addD (mSl (mCall 2 m__law_shuffled (aCons (mVar 1) (aCons (mCall 4 m__law_things (aCons (mVar 1) (aCons (mVar 3) (aCons (mVar 4) (aCons (mVar 5) aNil))))) aNil))) oNone (oSome (mC (.int 6)))) (mLst (aCons (mVar 5) (aCons (mTup (aCons (mC (.str "alike")) aNil)) aNil)))) aNil)) (gT [(gN 7), (gN 8)]) (sSeq (sPar [9, 10] (aCons (mCall 3 m__law_is_paper (aCons (mVar 3) (aCons (mVar 4) (aCons (mVar 8) aNil)))) (aCons (mB reprD (aCons (mVar 8) aNil)) aNil)))
      (sSeq (sAsg (mIf (bVal (mOp eqD (mOp modD (mB intfD (aCons (mVar 7) aNil)) (mC (.int 2))) (mC (.int 0)))) (mCall 3 m_charts_holds (aCons (mVar 3) (aCons (mVar 4) (aCons (mVar 8) aNil)))) (mCallK 3 0 3 [2, 1, 0] m_charts_holds aNil (aCons (mVar 8) (aCons (mVar 4) (aCons (mVar 3) aNil))))) (gN 11))
      (sIf (bOr (bNot (bVal (mCall 2 m__law_is_bool (aCons (mVar 11) (aCons (mVar 9) aNil))))) (bVal (mOp neSD (mB reprD (aCons (mVar 8) aNil)) (mVar 10)))) (sRet (mC (.bl false))) sNil))))
      (sIf (bVal (mOp neSD (mB reprD (aCons (mCall 2 m_judge_charts (aCons (mVar 3) (aCons (mVar 4) aNil))) aNil)) (mVar 6))) (sRet (mC (.bl false))) sNil)))))))))
      (sRet (mC (.bl true)))))
noncomputable def m_law : FM := fnP N_law.length b_law
theorem ok_law (c : Fx K mg) : FD P w K mg base "law" st_law ["script"] 11 m_law := by
    obtain ⟨f, fd, G⟩ := c.g_law
    refine (fd_mk (k := 10) G sc_law fun X W cdv A outer s H E eX eW tk hp hr => ?_)
    have hu := hr.units
    have hu65 : X.A.units + 65 < cLine := by have := hr.un; omega
    have hu1 : X.A.units + 1 < cLine := by have := hr.un; omega
    have nd := sc_law.nd
    subst eX
    exact (b_cons (s_set nd (i := 1) rfl (Or.inl rfl) (Or.inr rfl) (d_call (ok__law_deck c) bd__law_deck (hr.mono (by decide)) rfl tk (a_cons (d_var (i := 0) rfl (Or.inl rfl)) a_nil)))
      (b_cons (s_for hp rfl (i_rng1 (by rfl) c.n_range (a_cons d_int a_nil)) (g_name nd (i := 2) rfl (Or.inl rfl) (Or.inr rfl)) (b_cons (s_set nd (i := 3) rfl (Or.inl rfl) (Or.inr rfl) (d_call (ok__law_chart c) bd__law_chart (hr.mono (by decide)) rfl tk (a_cons (d_var (i := 1) rfl (Or.inl rfl)) (a_cons (d_call (ok__law_pick c) bd__law_pick (hr.mono (by decide)) rfl tk (a_cons (d_var (i := 1) rfl (Or.inl rfl)) (a_cons (d_tup (a_cons d_int (a_cons d_int (a_cons (d_bin opD_pow d_int d_int) (a_cons d_int (a_cons d_int a_nil)))))) a_nil))) a_nil))))
      (b_cons (s_set nd (i := 4) rfl (Or.inl rfl) (Or.inr rfl) (d_call (ok__law_near_chart c) bd__law_near_chart (hr.mono (by decide)) rfl tk (a_cons (d_var (i := 1) rfl (Or.inl rfl)) (a_cons (d_var (i := 3) rfl (Or.inl rfl)) a_nil))))
      (b_cons (s_if (t_cmp (opD_eq hu) (d_var (i := 2) rfl (Or.inl rfl)) d_int rfl) (b_one (s_par2 (i := 3) (j := 4) rfl nd rfl rfl (by decide) rfl rfl (a_cons (d_var (i := 4) rfl (Or.inl rfl)) (a_cons (d_var (i := 3) rfl (Or.inl rfl)) a_nil)))) b_nil)
      (b_cons (s_set nd (i := 5) rfl (Or.inl rfl) (Or.inr rfl) (d_if (t_cmp opD_gt (d_var (i := 2) rfl (Or.inl rfl)) d_int rfl) (d_call (ok_judge_charts c) bd_judge_charts (hr.mono (by decide)) rfl tk (a_cons (d_var (i := 3) rfl (Or.inl rfl)) (a_cons (d_var (i := 4) rfl (Or.inl rfl)) a_nil))) (d_callK0 (idx := [1, 0]) (ok_judge_charts c) bk_judge_charts_0_other_one rfl (by decide) (hr.mono (by decide)) rfl tk (k_cons (d_var (i := 4) rfl (Or.inl rfl)) (k_cons (d_var (i := 3) rfl (Or.inl rfl)) k_nil)))))
      (b_cons (s_if (t_bool (w_or (t_not (t_val (d_call (ok__law_is_paper c) bd__law_is_paper (hr.mono (by decide)) rfl tk (a_cons (d_var (i := 3) rfl (Or.inl rfl)) (a_cons (d_var (i := 4) rfl (Or.inl rfl)) (a_cons (d_var (i := 5) rfl (Or.inl rfl)) a_nil)))))) (w_or1 (t_cmp (opD_ne hu) (d_cmp (opD_eq hu) (d_ix hu1 (d_var (i := 5) rfl (Or.inl rfl)) d_int (fun _ _ => rfl)) d_str rfl) (d_call (ok__law_are_alike c) bd__law_are_alike (hr.mono (by decide)) rfl tk (a_cons (d_var (i := 3) rfl (Or.inl rfl)) (a_cons (d_var (i := 4) rfl (Or.inl rfl)) a_nil))) rfl)))) (b_one (s_ret d_bl)) b_nil)
      (b_cons (s_set nd (i := 6) rfl (Or.inl rfl) (Or.inr rfl) (d_B (cD_repr hr.no hu) (by rfl) c.n_repr bt_repr (a_cons (d_var (i := 5) rfl (Or.inl rfl)) a_nil)))
      (b_cons (s_for hp rfl (i_enumA (by rfl) c.n_enumerate (a_cons (d_bin opD_add (d_sl (d_call (ok__law_shuffled c) bd__law_shuffled (hr.mono (by decide)) rfl tk (a_cons (d_var (i := 1) rfl (Or.inl rfl)) (a_cons (d_call (ok__law_things c) bd__law_things (hr.mono (by decide)) rfl tk (a_cons (d_var (i := 1) rfl (Or.inl rfl)) (a_cons (d_var (i := 3) rfl (Or.inl rfl)) (a_cons (d_var (i := 4) rfl (Or.inl rfl)) (a_cons (d_var (i := 5) rfl (Or.inl rfl)) a_nil))))) a_nil))) o_none (o_some d_int)) (d_lst (a_cons (d_var (i := 5) rfl (Or.inl rfl)) (a_cons (d_tup (a_cons d_str a_nil)) a_nil)))) a_nil)) (g_tup rfl (gs_cons (g_name nd (i := 7) rfl (Or.inl rfl) (Or.inr rfl)) (gs_cons (g_name nd (i := 8) rfl (Or.inl rfl) (Or.inr rfl)) gs_nil))) (b_cons (s_par2 (i := 9) (j := 10) rfl nd rfl rfl (by decide) rfl rfl (a_cons (d_call (ok__law_is_paper c) bd__law_is_paper (hr.mono (by decide)) rfl tk (a_cons (d_var (i := 3) rfl (Or.inl rfl)) (a_cons (d_var (i := 4) rfl (Or.inl rfl)) (a_cons (d_var (i := 8) rfl (Or.inl rfl)) a_nil)))) (a_cons (d_B (cD_repr hr.no hu) (by rfl) c.n_repr bt_repr (a_cons (d_var (i := 8) rfl (Or.inl rfl)) a_nil)) a_nil)))
      (b_cons (s_set nd (i := 11) rfl (Or.inl rfl) (Or.inr rfl) (d_if (t_cmp (opD_eq hu) (d_bin opD_mod (d_Ty (cD_int) (by rfl) c.n_int bt_int (a_cons (d_var (i := 7) rfl (Or.inl rfl)) a_nil)) d_int) d_int rfl) (d_call (ok_charts_holds c) bd_charts_holds (hr.mono (by decide)) rfl tk (a_cons (d_var (i := 3) rfl (Or.inl rfl)) (a_cons (d_var (i := 4) rfl (Or.inl rfl)) (a_cons (d_var (i := 8) rfl (Or.inl rfl)) a_nil)))) (d_callK0 (idx := [2, 1, 0]) (ok_charts_holds c) bk_charts_holds_0_thing_other_one rfl (by decide) (hr.mono (by decide)) rfl tk (k_cons (d_var (i := 8) rfl (Or.inl rfl)) (k_cons (d_var (i := 4) rfl (Or.inl rfl)) (k_cons (d_var (i := 3) rfl (Or.inl rfl)) k_nil))))))
      (b_one (s_if (t_bool (w_or (t_not (t_val (d_call (ok__law_is_bool c) bd__law_is_bool (hr.mono (by decide)) rfl tk (a_cons (d_var (i := 11) rfl (Or.inl rfl)) (a_cons (d_var (i := 9) rfl (Or.inl rfl)) a_nil))))) (w_or1 (t_cmp (opD_neS hu) (d_B (cD_repr hr.no hu) (by rfl) c.n_repr bt_repr (a_cons (d_var (i := 8) rfl (Or.inl rfl)) a_nil)) (d_var (i := 10) rfl (Or.inl rfl)) rfl)))) (b_one (s_ret d_bl)) b_nil)))))
      (b_one (s_if (t_cmp (opD_neS hu) (d_B (cD_repr hr.no hu) (by rfl) c.n_repr bt_repr (a_cons (d_call (ok_judge_charts c) bd_judge_charts (hr.mono (by decide)) rfl tk (a_cons (d_var (i := 3) rfl (Or.inl rfl)) (a_cons (d_var (i := 4) rfl (Or.inl rfl)) a_nil))) a_nil)) (d_var (i := 6) rfl (Or.inl rfl)) rfl) (b_one (s_ret d_bl)) b_nil))))))))))
      (b_one (s_ret d_bl))))


end
end K31

namespace K31
open PySem PySem.Spec PyProof.Rows L2 Mi
variable {S T : Sto} {N : Nat}
instance : Bd 53881 64 := ⟨by unfold Sm; decide⟩
instance : Bd 39373 64 := ⟨by unfold Sm; decide⟩
instance : Bd 48271 64 := ⟨by unfold Sm; decide⟩
instance : Bd 64 64 := ⟨by unfold Sm; decide⟩
instance : Bd 40692 64 := ⟨by unfold Sm; decide⟩
instance : Bd 8 64 := ⟨by unfold Sm; decide⟩
instance : Bd 9 64 := ⟨by unfold Sm; decide⟩
instance : Bd 60 64 := ⟨by unfold Sm; decide⟩
instance : Bd 100 64 := ⟨by unfold Sm; decide⟩
instance : Bd 40 64 := ⟨by unfold Sm; decide⟩
instance : Bd 1048576 64 := ⟨by unfold Sm; decide⟩
instance : Bd 1000000000 64 := ⟨by unfold Sm; decide⟩
instance : Bd 1000000000000000 64 := ⟨by unfold Sm; decide⟩
instance : Bd 4 64 := ⟨by unfold Sm; decide⟩
instance : Bd 5 64 := ⟨by unfold Sm; decide⟩
instance : Bd 6 64 := ⟨by unfold Sm; decide⟩
instance : Bd 7 64 := ⟨by unfold Sm; decide⟩
instance : Bd 17 64 := ⟨by unfold Sm; decide⟩
instance : Bd 18 64 := ⟨by unfold Sm; decide⟩
instance : Bd 20 64 := ⟨by unfold Sm; decide⟩
instance : Bd 30 64 := ⟨by unfold Sm; decide⟩
instance : Bd 31 64 := ⟨by unfold Sm; decide⟩
instance : Bd 39 64 := ⟨by unfold Sm; decide⟩
instance : Bd 43 64 := ⟨by unfold Sm; decide⟩
instance : Bd 63 64 := ⟨by unfold Sm; decide⟩
instance : Bd 300 64 := ⟨by unfold Sm; decide⟩
instance : Bd 47425 64 := ⟨by unfold Sm; decide⟩
instance : Bd 100000 64 := ⟨by unfold Sm; decide⟩
instance : Bd 15374310 64 := ⟨by unfold Sm; decide⟩
instance : Bd 2147483563 64 := ⟨by unfold Sm; decide⟩
instance : Bd 2147483587 64 := ⟨by unfold Sm; decide⟩
instance : Bd 2147483629 64 := ⟨by unfold Sm; decide⟩
instance : Bd 2147483647 64 := ⟨by unfold Sm; decide⟩
instance : Bd 1000000000000000000 64 := ⟨by unfold Sm; decide⟩
theorem is_int_eq {i : Int} : m_is_int [.int i] S = .ok (.bl true) S := ens_eq (by
  simp [m_is_int, b_is_int, startE, isiD, D.tyn, askTys, isiB])
theorem is_from_eq {i j : Int} : m_is_from [.int i, .int j] S = .ok (.bl (decide (j ≤ i))) S := ens_eq (by
  simp [m_is_from, b_is_from, startE, Ens_is is_int_eq])
theorem is_tuple_eq {l : List D} {j : Int} : m_is_tuple [.tup l, .int j] S = .ok (.bl (decide ((l.length : Int) = j))) S := ens_eq (by
  simp [m_is_tuple, b_is_tuple, startE, isiD, D.tyn, askTys, isiB])
theorem bd_mod {i j : Int} (k : Nat) (h : 0 < j) (hj : j ≤ 2 ^ k) : Bd (i.fmod j) k := by
  rw [Int.fmod_eq_emod_of_nonneg _ (by omega)]
  have := Int.emod_lt_of_pos i h
  have := Int.emod_nonneg i (b := j) (by omega)
  exact bd_lt (by omega) (by omega)
theorem draw_ok {N : Nat} {T S : Sto} {many : Int} (h : DkP N T S) (hN : N ≤ 1000000000) (h1 : 1 ≤ many) (hb : Bd many 1000) :
    Ens (m__law_draw [.loc 1, .int many] S) fun a S' => ∃ v, a = .int v ∧ 0 ≤ v ∧ v < many ∧ DkP (N + 1) T S' := by
  obtain ⟨c, m, n, hS, hc, hm0, hm1, hn0, hn1⟩ := h
  subst hS
  have b1 : Bd n 64 := bd_lt (by omega) (by omega)
  have b2 : Bd m 64 := bd_lt (by omega) (by omega)
  have hm : many ≠ 0 := by omega
  have hx : (if 2 < many then many else 2) ≠ 0 := by split <;> omega
  have hd : ∀ i : Int, 0 ≤ i.fmod many ∧ i.fmod many < many := fun i => by
    rw [Int.fmod_eq_emod_of_nonneg _ (by omega)]
    exact ⟨Int.emod_nonneg i hm, Int.emod_lt_of_pos i (by omega)⟩
  have e0 : ∀ i : Int, Bd (i.fmod 2147483563) 64 := fun i => bd_mod 64 (by decide) (by decide)
  have e1 : ∀ i : Int, Bd (i.fmod 2147483587) 64 := fun i => bd_mod 64 (by decide) (by decide)
  have e2 : ∀ i : Int, Bd (i.fmod 2147483629) 64 := fun i => bd_mod 64 (by decide) (by decide)
  have e3 : ∀ i : Int, Bd (i.fmod 2147483647) 64 := fun i => bd_mod 64 (by decide) (by decide)
  have fin : ∀ (i : Int) (c' : List Int), c'.length ≤ 63 → ∃ v, D.int (i.fmod many) = .int v ∧ 0 ≤ v ∧ v < many ∧ DkP (N + 1) T (deckS c' m (n + 1) T) := fun i c' hc' =>
    ⟨_, rfl, (hd i).1, (hd i).2, c', m, n + 1, rfl, hc', hm0, hm1, by omega, by omega⟩
  simp [m__law_draw, b__law_draw, startE, modD_int, fdivD_int, hm]
  refine ⟨fun hne => ?_, fun he => ?_⟩
  · have hl : c.dropLast.length ≤ 62 := by simp; omega
    simp [dk_pop hne, modD_int, fdivD_int, hm, hx]
    refine ⟨fun _ => ?_, fun _ => ?_⟩
    · rw [dk_app (by omega)]
      simp [modD_int, hm]
      exact ⟨(hd _).1, (hd _).2, _, m, n + 1, rfl, by simp; omega, hm0, hm1, by omega, by omega⟩
    · exact ⟨(hd _).1, (hd _).2, _, m, n + 1, rfl, by omega, hm0, hm1, by omega, by omega⟩
  · exact ⟨(hd _).1, (hd _).2, _, m, n + 1, rfl, by omega, hm0, hm1, by omega, by omega⟩
theorem cp_eq {x y : Int} : m_common_part [.int x, .int y] S = .ok (.int (g2 x y)) S := ens_eq (by
  simp [m_common_part, b_common_part, startE]
  generalize ha : (if x < 0 then -x else x) = a
  generalize hb : (if y < 0 then -y else y) = b
  have e : g2 x y = g2 a b := by rw [← ha, ← hb, g2_abs]
  rw [e]
  have ha0 : 0 ≤ a := by rw [← ha]; split <;> omega
  have hb0 : 0 ≤ b := by rw [← hb]; split <;> omega
  clear ha hb e
  obtain ⟨n, hn⟩ : ∃ n : Nat, b ≤ n := ⟨b.toNat, by omega⟩
  induction n generalizing a b with
  | zero =>
    have : b = 0 := by omega
    subst this
    rw [EnsS_while]
    simp [g2_zero ha0]
  | succ n ih =>
    rw [EnsS_while]
    by_cases h : b = 0
    · subst h
      simp [g2_zero ha0]
    · simp [h, modD_int]
      rw [Int.fmod_eq_emod_of_nonneg _ hb0, ← g2_step ha0 (by omega)]
      exact ih _ _ (by omega) (Int.emod_nonneg _ h) (by have := Int.emod_lt_of_pos a (b := b) (by omega); omega))
theorem lgcd_eq {x y : Int} : m__law_gcd [.int x, .int y] S = .ok (.int (g2 x y)) S := ens_eq (by
  simp [m__law_gcd, b__law_gcd, startE]
  generalize ha : (if x < 0 then -x else x) = a
  generalize hb : (if y < 0 then -y else y) = b
  have e : g2 x y = g2 a b := by rw [← ha, ← hb, g2_abs]
  rw [e]
  have ha0 : 0 ≤ a := by rw [← ha]; split <;> omega
  have hb0 : 0 ≤ b := by rw [← hb]; split <;> omega
  clear ha hb e
  obtain ⟨n, hn⟩ : ∃ n : Nat, b ≤ n := ⟨b.toNat, by omega⟩
  induction n generalizing a b with
  | zero =>
    have : b = 0 := by omega
    subst this
    rw [EnsS_while]
    simp [g2_zero ha0]
  | succ n ih =>
    rw [EnsS_while]
    by_cases h : b = 0
    · subst h
      simp [g2_zero ha0]
    · have hp : 0 < b := by omega
      have hp' : ¬ b ≤ 0 := by omega
      simp [h, hp, hp', modD_int]
      rw [Int.fmod_eq_emod_of_nonneg _ hb0, ← g2_step ha0 (by omega)]
      exact ih _ _ (by omega) (Int.emod_nonneg _ h) (by have := Int.emod_lt_of_pos a (b := b) (by omega); omega))
theorem low3_eq {x y w : Int} {m : Nat} [b : Bd w m] (hm : m ≤ 8000) (h : 0 < w) : m_lowest_spot [.int x, .int y, .int w] S = .ok (spD3 x y w) S := ens_eq (by
  have hg := g3_pos (x := x) (y := y) h
  have hg' : g2 (g2 x y) w ≠ 0 := by unfold g3 at hg; omega
  have b1 : Bd (g2 (g2 x y) w) m := bd_g2 h
  have hd : ¬ w < 0 := by omega
  have hd' : 0 ≤ w := by omega
  have hq : 0 ≤ g2 (g2 x y) w := g2_nonneg _ _
  simp [m_lowest_spot, b_lowest_spot, startE, Ens_is cp_eq, hd, hd', fdivD_int, hm, hg', spD3, g3, Int.fdiv_eq_ediv_of_nonneg _ hq])
theorem lspot_eq {x y w : Int} {m : Nat} [b : Bd w m] (hm : m ≤ 8000) (h : 0 < w) : m__law_spot [.int x, .int y, .int w] S = .ok (spD3 x y w) S := ens_eq (by
  have hg := g3_pos (x := x) (y := y) h
  have hg' : g2 (g2 x y) w ≠ 0 := by unfold g3 at hg; omega
  have b1 : Bd (g2 (g2 x y) w) m := bd_g2 h
  have hd : ¬ w < 0 := by omega
  have hd' : 0 ≤ w := by omega
  have hq : 0 ≤ g2 (g2 x y) w := g2_nonneg _ _
  simp [m__law_spot, b__law_spot, startE, Ens_is lgcd_eq, hd, hd', fdivD_int, hm, hg', spD3, g3, Int.fdiv_eq_ediv_of_nonneg _ hq])
abbrev t3 (x y w : Int) : D := .tup [.int x, .int y, .int w]
abbrev t2 (x y : Int) : D := .tup [.int x, .int y]
theorem isv_eq {x y w : Int} (hw : 1 ≤ w) (hg : g3 x y w = 1) : m_is_spot_value [t3 x y w] S = .ok (.bl true) S := ens_eq (by
  have e : g2 (g2 x y) w = 1 := hg
  simp [m_is_spot_value, b_is_spot_value, startE, Ens_is is_tuple_eq, Ens_is is_int_eq, Ens_is is_from_eq, Ens_is cp_eq, hw, e])
section
variable {p0 p1 p2 q0 q1 q2 r0 r1 r2 n d : Int} [Bd p0 50] [Bd p1 50] [Bd p2 50] [Bd q0 50] [Bd q1 50] [Bd q2 50] [Bd r0 50] [Bd r1 50] [Bd r2 50]
def shX (a b pw qw n d : Int) : Int := a * qw * (d - n) + b * pw * n
end
@[simp] theorem rep2 {a : D} : (List.replicate (2 : Int).toNat [a]).flatten = [a, a] := rfl
@[simp] theorem rep3 {a : D} : (List.replicate (3 : Int).toNat [a]).flatten = [a, a, a] := rfl
def fit : Nat → D → Bool
  | 0, _ => false
  | n + 1, .tup l => l.all (fit n) && decide (l.length ≤ 1000)
  | _ + 1, .int _ => true
  | _ + 1, .bl _ => true
  | _ + 1, .non => true
  | _ + 1, .str x => SeqAt.shaped (.str x)
  | _ + 1, _ => false
theorem isbool_ok {b : Bool} : m__law_is_bool [.bl b, .bl b] S = .ok (.bl true) S := ens_eq (by
  cases b <;> simp [m__law_is_bool, b__law_is_bool, startE, D.isBl])
theorem zipD_get' {l m : List D} {i : Nat} {d : D} (h : (zipD l m)[i]? = some d) : ∃ x y, l[i]? = some x ∧ m[i]? = some y ∧ d = .tup [x, y] := by
  unfold zipD at h
  rw [List.getElem?_map] at h
  cases e : (l.zip m)[i]? with
  | none => rw [e] at h; cases h
  | some p =>
    rw [e] at h
    cases h
    rw [List.getElem?_zip_eq_some] at e
    exact ⟨_, _, e.1, e.2, rfl⟩
theorem pick_ok {l : List D} (h : DkP N T S) (hN : N ≤ 1000000000) (hl : l ≠ []) (hlen : l.length ≤ 1000) :
    Ens (m__law_pick [.loc 1, .tup l] S) fun a S' => a ∈ l ∧ DkP (N + 1) T S' := by
  have h0 : 0 < l.length := List.length_pos_iff.mpr hl
  have b : Bd (l.length : Int) 64 := bd_lt (by omega) (by omega)
  simp [m__law_pick, b__law_pick, startE]
  refine (draw_ok h hN (by omega) (Bd.up b (by decide))).mono ?_
  rintro _ S1 ⟨v, ha, hv0, hv1, h1⟩
  subst ha
  obtain ⟨d, e1, e2⟩ := atI_nat (l := l) hv0 hv1
  rw [ixD_tup, e1]
  exact ⟨List.mem_of_getElem? e2, h1⟩
theorem far_ok {many : Int} (h : DkP N T S) (hN : N + 3 ≤ 1000000000) (h1 : 1 ≤ many) :
    Ens (m__law_far [.loc 1, .int many] S) fun a S' => ∃ v, a = .int v ∧ 0 ≤ v ∧ v < many ∧ DkP (N + 3) T S' := by
  have hm : many ≠ 0 := by omega
  simp [m__law_far, b__law_far, startE]
  refine (draw_ok h (by omega) (by decide) (Bd.up inferInstance (by decide))).mono ?_
  rintro _ S1 ⟨v1, ha, hv0, hv1, h2⟩
  subst ha
  have b1 : Bd v1 64 := bd_lt (by omega) (by omega)
  simp [shlD_c]
  refine (draw_ok h2 (by omega) (by decide) (Bd.up inferInstance (by decide))).mono ?_
  rintro _ S2 ⟨v2, ha, hw0, hw1, h3⟩
  subst ha
  have b2 : Bd v2 64 := bd_lt (by omega) (by omega)
  simp [shlD_c]
  refine (draw_ok h3 (by omega) (by decide) (Bd.up inferInstance (by decide))).mono ?_
  rintro _ S3 ⟨v3, ha, hu0, hu1, h4⟩
  subst ha
  simp [modD_int, hm]
  rw [Int.fmod_eq_emod_of_nonneg _ (by omega)]
  exact ⟨Int.emod_nonneg _ hm, Int.emod_lt_of_pos _ (by omega), h4⟩
theorem number_ok {most : Int} (h : DkP N T S) (hN : N + 4 ≤ 1000000000) (h1 : 1 ≤ most) (h2 : most ≤ 1000000000000000) :
    Ens (m__law_number [.loc 1, .int most] S) fun a S' => ∃ v, a = .int v ∧ -most ≤ v ∧ v ≤ most ∧ DkP (N + 4) T S' := by
  have b : Bd most 64 := bd_lt (by omega) (by omega)
  simp [m__law_number, b__law_number, startE]
  refine (draw_ok h (by omega) (by decide) (Bd.up inferInstance (by decide))).mono ?_
  rintro _ S1 ⟨v1, ha, hv0, hv1, h3⟩
  subst ha
  simp
  refine ⟨fun _ => ?_, fun _ => ?_⟩
  · refine (pick_ok h3 (by omega) (by simp) (by simp)).mono ?_
    rintro a S2 ⟨ha, h4⟩
    have h5 := h4.up (M := N + 4) (by omega)
    simp at ha
    rcases ha with e | e | e | e | e | e | e | e <;> subst e <;> exact ⟨_, rfl, by omega, by omega, h5⟩
  · refine (far_ok h3 (by omega) (by omega)).mono ?_
    rintro _ S2 ⟨v2, ha, hw0, hw1, h4⟩
    subst ha
    simp
    exact ⟨by omega, by omega, h4⟩
def SpOk (M : Int) (d : D) : Prop := ∃ x y w, d = t3 x y w ∧ -M ≤ x ∧ x ≤ M ∧ -M ≤ y ∧ y ≤ M ∧ 1 ≤ w ∧ w ≤ M ∧ g3 x y w = 1
theorem SpOk.up {M M' : Int} {d : D} (h : SpOk M d) (k : M ≤ M') : SpOk M' d := by
  obtain ⟨x, y, w, e, h1, h2, h3, h4, h5, h6, h7⟩ := h
  exact ⟨x, y, w, e, by omega, by omega, by omega, by omega, h5, by omega, h7⟩
theorem spD3_ok {M x y w : Int} (h1 : -M ≤ x) (h2 : x ≤ M) (h3 : -M ≤ y) (h4 : y ≤ M) (h5 : 1 ≤ w) (h6 : w ≤ M) : SpOk M (spD3 x y w) := by
  obtain ⟨g, a, b, c, hg, ha, hb, hc, hc0, hcw, hl, e, e1, e2⟩ := low_parts (x := x) (y := y) (w := w) (by omega)
  exact ⟨a, b, c, e, by omega, by omega, by omega, by omega, by omega, by omega, hl⟩
theorem anyspot_ok {most : Int} (h : DkP N T S) (hN : N + 20 ≤ 1000000000) (h1 : 1 ≤ most) (h2 : most ≤ 1000000000000000) :
    Ens (m__law_any_spot [.loc 1, .int most] S) fun a S' => SpOk most a ∧ DkP (N + 20) T S' := by
  have b : Bd most 64 := bd_lt (by omega) (by omega)
  simp [m__law_any_spot, b__law_any_spot, startE]
  refine (draw_ok h (by omega) (by decide) (Bd.up inferInstance (by decide))).mono ?_
  rintro _ S1 ⟨v1, ha, hv0, hv1, h3⟩
  subst ha
  simp
  refine (far_ok h3 (by omega) (by omega)).mono ?_
  rintro _ S2 ⟨v2, ha, hw0, hw1, h4⟩
  subst ha
  simp
  refine (pick_ok h4 (by omega) (by simp) (by simp)).mono ?_
  rintro a S3 ⟨ha, h5⟩
  have hw : ∃ w, a = .int w ∧ 1 ≤ w := by
    simp at ha
    rcases ha with e | e | e | e | e | e <;> subst e <;> exact ⟨_, rfl, by omega⟩
  obtain ⟨w, e, hw1⟩ := hw
  subst e
  refine (number_ok h5 (by omega) h1 h2).mono ?_
  rintro _ S4 ⟨x, ha, hx0, hx1, h6⟩
  subst ha
  simp
  refine (number_ok h6 (by omega) h1 h2).mono ?_
  rintro _ S5 ⟨y, ha, hy0, hy1, h7⟩
  subst ha
  have hm : 1 ≤ (if most < w then most else w) ∧ (if most < w then most else w) ≤ most := by split <;> omega
  generalize (if most < w then most else w) = u at hm
  have bu : Bd u 64 := bd_lt (by omega) (by omega)
  rw [Ens_is (lspot_eq (m := 64) (by decide) (by omega))]
  exact ⟨spD3_ok hx0 hx1 hy0 hy1 hm.1 hm.2, h7.up (by omega)⟩
theorem cut_map {f : Int → D} {l : List Int} {lo hi : Option Int} : ∃ l' : List Int, Mi.cutD (l.map f) lo hi = l'.map f ∧ l'.length ≤ l.length := by
  refine ⟨(l.drop (HT.sIx l.length 0 lo)).take (HT.sIx l.length l.length hi - HT.sIx l.length 0 lo), ?_, ?_⟩
  · unfold Mi.cutD
    rw [List.length_map, List.map_take, List.map_drop]
  · rw [List.length_take, List.length_drop]; omega
theorem getI {l : List Int} {i : Nat} {d : D} (h : (l.map D.int)[i]? = some d) : ∃ v, l[i]? = some v ∧ d = .int v := by
  rw [List.getElem?_map] at h
  cases e : l[i]? with
  | none => rw [e] at h; cases h
  | some v => rw [e] at h; cases h; exact ⟨v, rfl, rfl⟩
theorem deck_ok (ns : List Int) (hl : ns.length ≤ 63) (d : D) (hd : d = D.lst (ns.map D.int) ∨ d = D.wls (ns.map D.int)) :
    Ens (m__law_deck [d] []) fun a S' => a = .loc 1 ∧ DkP 0 [] S' := by
  obtain ⟨l', e, hl'⟩ := cut_map (f := D.int) (l := ns) (lo := none) (hi := some 63)
  have hs : ∀ S, slD S d none (some 63) = some (.lst (l'.map D.int)) := fun S => by
    rw [← e]
    rcases hd with h | h <;> subst h <;> rfl
  simp [m__law_deck, b__law_deck, startE, hs]
  refine for_inv (fun k env S => S = [] ∧ ∃ (m : Int) (x : Option D), 0 ≤ m ∧ m < 2147483629 ∧ env = [some d, some (.int m), x]) _ 0 _ _ ⟨rfl, 15374310, none, by decide, by decide, rfl⟩ (fun _ _ _ _ _ _ => trivial) (fun i d' env S _ hd' hi => ?_) (fun env S hi => ?_)
  · obtain ⟨e1, m, x, h0, h1, e2⟩ := hi
    obtain ⟨v, _, e3⟩ := getI hd'
    subst e1 e2 e3
    have b : Bd m 64 := bd_lt (by omega) (by omega)
    simp [modD_int]
    rw [Int.fmod_eq_emod_of_nonneg _ (by decide)]
    exact ⟨Int.emod_nonneg _ (by decide), Int.lt_of_lt_of_le (Int.emod_lt_of_pos _ (by decide)) (by decide)⟩
  · obtain ⟨e1, m, x, h0, h1, e2⟩ := hi
    subst e1 e2
    simp [hs, wipeE]
    refine lc_inv (fun k acc S => S = [] ∧ acc = (l'.take k).map D.int) _ 0 _ _ ⟨rfl, rfl⟩ (fun _ _ _ _ _ _ => trivial) (fun i d' acc S hk hd' hi => ?_) (fun acc S hi => ?_)
    · obtain ⟨e1, e2⟩ := hi
      obtain ⟨v, e4, e3⟩ := getI hd'
      subst e1 e3
      have hlen : acc.length < 16777216 := by rw [e2, List.length_map, List.length_take]; omega
      simp [hlen]
      rw [e2, List.take_succ]
      rw [show i - 0 = i from rfl] at e4
      simp [e4]
    · obtain ⟨e1, e2⟩ := hi
      subst e1
      have e3 : acc = l'.map D.int := by
        rw [e2]; simp
      subst e3
      simp [revD, kvsD, keyD]
      refine ⟨l'.reverse, m, 0, ?_, by simp; omega, h0, h1, by decide, by decide⟩
      rw [← List.map_reverse]
      rfl
theorem SpOk.get {d : D} (h : SpOk 1000000000000000 d) : ∃ x y w, d = t3 x y w ∧ Bd x 50 ∧ Bd y 50 ∧ Bd w 50 ∧ 1 ≤ w ∧ g3 x y w = 1 := by
  obtain ⟨x, y, w, e, h1, h2, h3, h4, h5, h6, h7⟩ := h
  exact ⟨x, y, w, e, bd_lt (by omega) (by omega), bd_lt (by omega) (by omega), bd_lt (by omega) (by omega), h5, h7⟩
def absI (x : Int) : Int := if x < 0 then -x else x
theorem within_ok {x y w M : Int} : ∃ b, m__law_is_within [t3 x y w, .int M] S = .ok (.bl b) S ∧ (b = true → -M ≤ x ∧ x ≤ M ∧ -M ≤ y ∧ y ≤ M ∧ w ≤ M) := by
  refine ⟨decide (absI x ≤ M ∧ absI y ≤ M ∧ w ≤ M), ens_eq ?_, fun h => ?_⟩
  · have e1 : ∀ x : Int, (if x < 0 then -x else x) = absI x := fun x => rfl
    simp [m__law_is_within, b__law_is_within, startE, e1]
    refine ⟨fun h => ⟨fun h2 => ?_, fun h2 => ?_⟩, fun h => ?_⟩
    · simp [h, h2]
    · simp [h, show ¬ absI y ≤ M by omega]
    · simp [show ¬ absI x ≤ M by omega]
  · have h' := of_decide_eq_true h
    unfold absI at h'
    obtain ⟨h1, h2, h3⟩ := h'
    refine ⟨?_, ?_, ?_, ?_, h3⟩
    · split at h1 <;> omega
    · split at h1 <;> omega
    · split at h2 <;> omega
    · split at h2 <;> omega
theorem rng_get {n i : Nat} {d : D} (h : (rangeD 0 n)[i]? = some d) : i < n ∧ d = .int (i : Int) := by
  have hi : i < n := by
    have := (List.getElem?_eq_some_iff.mp h).1
    rwa [rangeD_length] at this
  rw [rangeD_get hi] at h
  cases h
  exact ⟨hi, by simp⟩
theorem low_bd {x y w : Int} {i j : Nat} [bx : Bd x i] [by_ : Bd y i] [bw : Bd w j] (hw : 0 < w) : ∃ a b c, spD3 x y w = t3 a b c ∧ 0 < c ∧ Bd a i ∧ Bd b i ∧ Bd c j ∧ g3 a b c = 1 := by
  obtain ⟨g, a, b, c, hg, ha, hb, hc, hc0, hcw, hl, e, h1, h2⟩ := low_parts (x := x) (y := y) hw
  exact ⟨a, b, c, e, hc0, ⟨bx.h.of_le h1⟩, ⟨by_.h.of_le h2⟩, ⟨bw.h.of_le (by omega)⟩, hl⟩
theorem app_end {l : List D} {d : D} (h : l.length < 16777216) : appD (S ++ [.lst l]) (.loc S.length) [d] = some (.non, S ++ [.lst (l ++ [d])]) := by
  have e : (S ++ [O.lst l])[S.length]? = some (.lst l) := by simp
  have e2 : (S ++ [O.lst l]).set S.length (.lst (l ++ [d])) = S ++ [.lst (l ++ [d])] := by simp
  unfold appD
  simp only [e, h, if_true, e2]
theorem isT_end {l : List D} : isT (S ++ [.lst l]) "list" (.loc S.length) = true := by
  have e : (S ++ [O.lst l])[S.length]? = some (.lst l) := by simp
  unfold isT
  simp only [e]
  rfl
theorem tuple_end {l : List D} : tupleD (S ++ [.lst l]) [.loc S.length] = some (.tup l) := by
  have e : (S ++ [O.lst l])[S.length]? = some (.lst l) := by simp
  simp [tupleD, seqD, der, e]
theorem ens_gc {r : R D} {P : D → Sto → Prop} (h : Ens r fun d S' => gcOk S S' ∧ d.lo S.length ∧ P d (S'.take S.length)) : Ens (gcR S r) P := by
  cases r with
  | ok d S' =>
    obtain ⟨h1, h2, h3⟩ := h
    simp only [gcR]
    rw [if_pos ⟨h1, h2⟩]
    exact h3
  | exc C fs S' => exact h.elim
  | bad => exact h.elim
theorem gc_app {o : O} : gcOk S (S ++ [o]) := ⟨by simp, fun i hi => .inl (by rw [List.getElem?_append_left hi])⟩
theorem atI_map {l : List D} {d : D} {f : D → D} (h : L2.atI l 0 = some d) : L2.atI (l.map f) 0 = some (f d) := by
  cases l with
  | nil => simp [L2.atI, L2.ixN] at h
  | cons a l => simp at h ⊢; rw [h]
theorem atI_mem {l : List D} {d : D} (h : L2.atI l 0 = some d) : d ∈ l := by
  cases l with
  | nil => simp [L2.atI, L2.ixN] at h
  | cons a l => simp at h; subst h; exact List.mem_cons_self
theorem shX_rev {a b pw qw n d : Int} : shX b a qw pw (d - n) d = shX a b pw qw n d := by
  unfold shX
  grind
theorem sq_nonneg (a : Int) : 0 ≤ a * a := by
  rcases Int.le_total 0 a with h | h
  · exact Int.mul_nonneg h h
  · exact Int.mul_nonneg_of_nonpos_of_nonpos h h
theorem sq_pos {a : Int} (h : a ≠ 0) : 0 < a * a := by
  have := sq_nonneg a
  have : a * a ≠ 0 := fun z => by
    rcases Int.mul_eq_zero.mp z with q | q <;> exact h q
  omega
def Sps (l : List D) : Prop := ∀ x ∈ l, SpOk 1000000000000000 x
theorem isv_ok {d : D} (h : SpOk 1000000000000000 d) : m_is_spot_value [d] S = .ok (.bl true) S := by
  obtain ⟨x, y, w, e, bx, by_, bw, hw, hg⟩ := h.get
  subst e
  exact isv_eq hw hg
theorem sps_py {l : List D} (h : Sps l) : PyData.canLayAll0 (D.pys l) = true ∧ PyData.depthAll (D.pys l) ≤ 1 := by
  induction l with
  | nil => exact ⟨rfl, by decide⟩
  | cons a l ih =>
    obtain ⟨x, y, w, e, _⟩ := (h a List.mem_cons_self).get
    subst e
    obtain ⟨h1, h2⟩ := ih fun x hx => h x (List.mem_cons_of_mem _ hx)
    simp [D.pys, D.py, PyData.canLayAll0, PyData.depthAll, PyData.canLay0, PyData.depth, h1, h2]
theorem eq_nil {l : List D} (h : Sps l) (hne : l ≠ []) : eqD S (.tup l) (.tup []) = some (.bl false) := by
  obtain ⟨h1, h2⟩ := sps_py h
  have s1 : SeqAt.shaped (der S (.tup l)).py = true := by
    simp [der, SeqAt.shaped, D.py, PyData.canLay0, PyData.depth, h1]
    omega
  have s2 : SeqAt.shaped (der S (D.tup [])).py = true := by simp [der, SeqAt.shaped, D.py, D.pys, PyData.canLay0, PyData.canLayAll0, PyData.depthAll, PyData.depth]
  unfold eqD
  rw [if_pos ⟨s1, s2⟩]
  cases l with
  | nil => exact absurd rfl hne
  | cons a l => simp [der, D.py, D.pys, PyData.eqv, PyData.eqvAll]
theorem bls_rep {k : Nat} : blsD (List.replicate k (D.bl true)) = some (List.replicate k true) := by
  induction k with
  | zero => rfl
  | succ k ih => simp [List.replicate_succ, blsD, ih]
end K31

namespace K31
/-! ### charts: plain geometry -/
abbrev V3 := Int × Int × Int
abbrev Ch := V3 × V3 × V3
def dt (p q : V3) : Int := p.1 * q.1 + p.2.1 * q.2.1 + p.2.2 * q.2.2
def num (M : Ch) (p : V3) : V3 := (dt M.1 p, dt M.2.1 p, dt M.2.2 p)
def det (M : Ch) : Int :=
  M.1.1 * (M.2.1.2.1 * M.2.2.2.2 - M.2.1.2.2 * M.2.2.2.1) - M.1.2.1 * (M.2.1.1 * M.2.2.2.2 - M.2.1.2.2 * M.2.2.1) + M.1.2.2 * (M.2.1.1 * M.2.2.2.1 - M.2.1.2.1 * M.2.2.1)
/-- alike: one positive factor between all nine numbers -/
def sc (k : Int) (p : V3) : V3 := (k * p.1, k * p.2.1, k * p.2.2)
def scC (k : Int) (M : Ch) : Ch := (sc k M.1, sc k M.2.1, sc k M.2.2)
def Alike (M N : Ch) : Prop := ∃ s t, 0 < s ∧ 0 < t ∧ scC s M = scC t N
theorem cramer {a0 b0 c0 a1 b1 c1 a2 b2 c2 u v w : Int} (h1 : u * a0 + v * a1 + w * a2 = 0) (h2 : u * b0 + v * b1 + w * b2 = 0) (h3 : u * c0 + v * c1 + w * c2 = 0)
    (hd : det ((a0, b0, c0), (a1, b1, c1), (a2, b2, c2)) ≠ 0) : u = 0 ∧ v = 0 ∧ w = 0 := by
  have e0 : u * det ((a0, b0, c0), (a1, b1, c1), (a2, b2, c2)) = (u * a0 + v * a1 + w * a2) * (b1 * c2 - c1 * b2) - (u * b0 + v * b1 + w * b2) * (a1 * c2 - c1 * a2) + (u * c0 + v * c1 + w * c2) * (a1 * b2 - b1 * a2) := by
    simp only [det]; grind
  have e1 : v * det ((a0, b0, c0), (a1, b1, c1), (a2, b2, c2)) = (u * a0 + v * a1 + w * a2) * (c0 * b2 - b0 * c2) + (u * b0 + v * b1 + w * b2) * (a0 * c2 - c0 * a2) - (u * c0 + v * c1 + w * c2) * (a0 * b2 - b0 * a2) := by
    simp only [det]; grind
  have e2 : w * det ((a0, b0, c0), (a1, b1, c1), (a2, b2, c2)) = (u * a0 + v * a1 + w * a2) * (b0 * c1 - c0 * b1) - (u * b0 + v * b1 + w * b2) * (a0 * c1 - c0 * a1) + (u * c0 + v * c1 + w * c2) * (a0 * b1 - b0 * a1) := by
    simp only [det]; grind
  rw [h1, h2, h3] at e0 e1 e2
  simp only [Int.zero_mul, Int.sub_self, Int.add_zero, Int.sub_zero] at e0 e1 e2
  exact ⟨(Int.mul_eq_zero.1 e0).resolve_right hd, (Int.mul_eq_zero.1 e1).resolve_right hd, (Int.mul_eq_zero.1 e2).resolve_right hd⟩
theorem det_sc {k l m x0 y0 w0 x1 y1 w1 x2 y2 w2 : Int} : det ((k * x0, k * y0, k * w0), (l * x1, l * y1, l * w1), (m * x2, m * y2, m * w2)) = k * l * m * det ((x0, y0, w0), (x1, y1, w1), (x2, y2, w2)) := by
  simp only [det]; grind
theorem det_sub {P Q R a d g b e h : Int} : det ((P, Q, R), (P + a, Q + d, R + g), (P + b, Q + e, R + h)) = det ((P, Q, R), (a, d, g), (b, e, h)) := by
  simp only [det]; grind
theorem det_add {A B a b c d e f g h i : Int} : det ((a * A + b * B + c, d * A + e * B + f, g * A + h * B + i), (a, d, g), (b, e, h)) = det ((a, b, c), (d, e, f), (g, h, i)) := by
  simp only [det]; grind
theorem up1 (r s t A B : Int) : r * (A + 1) + s * B + t = (r * A + s * B + t) + r := by grind
theorem up2 (r s t A B : Int) : r * A + s * (B + 1) + t = (r * A + s * B + t) + s := by grind
theorem up3 (r s t A B : Int) : r * (A + 1) + s * (B + 1) + t = (r * (A + 1) + s * B + t) + (r * A + s * (B + 1) + t) - (r * A + s * B + t) := by grind
theorem mix (k g u v w x y z x' y' z' : Int) (h : k * (x + y - z) = g * (x' + y' - z')) (e1 : x = u) (e2 : y = v) (e3 : z = w) : k * (u + v - w) = g * (x' + y' - z') := by subst e1 e2 e3; exact h
theorem key {g0 g1 g2 g3 k0 k1 k2 k3 A B z0 z1 z2 z3 r s t r' s' t' : Int} (e0 : r * A + s * B + t = g0 * z0) (e1 : r * (A + 1) + s * B + t = g1 * z1) (e2 : r * A + s * (B + 1) + t = g2 * z2) (e3 : r * (A + 1) + s * (B + 1) + t = g3 * z3)
    (f0 : r' * A + s' * B + t' = k0 * z0) (f1 : r' * (A + 1) + s' * B + t' = k1 * z1) (f2 : r' * A + s' * (B + 1) + t' = k2 * z2) (f3 : r' * (A + 1) + s' * (B + 1) + t' = k3 * z3) :
    (k3 * g0 - g3 * k0) * z0 + (g3 * k1 - k3 * g1) * z1 + (g3 * k2 - k3 * g2) * z2 = 0 := by
  have h1 : g3 * z3 = g1 * z1 + g2 * z2 - g0 * z0 := by rw [← e0, ← e1, ← e2, ← e3]; exact up3 ..
  have h2 : k3 * z3 = k1 * z1 + k2 * z2 - k0 * z0 := by rw [← f0, ← f1, ← f2, ← f3]; exact up3 ..
  clear e0 e1 e2 e3 f0 f1 f2 f3
  have h3 : k3 * (g1 * z1 + g2 * z2 - g0 * z0) = g3 * (k1 * z1 + k2 * z2 - k0 * z0) := by rw [← h1, ← h2, ← Int.mul_assoc, ← Int.mul_assoc, Int.mul_comm k3 g3]
  clear h1 h2
  grind
theorem same {g0 k0 k3 g3 z P Q : Int} (e : P = g0 * z) (f : Q = k0 * z) (c : k3 * g0 = g3 * k0) : k3 * P = g3 * Q := by
  rw [e, f, ← Int.mul_assoc, ← Int.mul_assoc, c]
theorem row {g0 g1 g2 g3 k0 k1 k2 k3 A B z0 z1 z2 r s t r' s' t' : Int} (e0 : r * A + s * B + t = g0 * z0) (e1 : r * (A + 1) + s * B + t = g1 * z1) (e2 : r * A + s * (B + 1) + t = g2 * z2)
    (f0 : r' * A + s' * B + t' = k0 * z0) (f1 : r' * (A + 1) + s' * B + t' = k1 * z1) (f2 : r' * A + s' * (B + 1) + t' = k2 * z2) (c0 : k3 * g0 = g3 * k0) (c1 : k3 * g1 = g3 * k1) (c2 : k3 * g2 = g3 * k2) : k3 * r = g3 * r' ∧ k3 * s = g3 * s' ∧ k3 * t = g3 * t' := by
  have h0 := same e0 f0 c0
  have h1 := same e1 f1 c1
  have h2 := same e2 f2 c2
  clear e0 e1 e2 f0 f1 f2 c0 c1 c2
  rw [up1, up1] at h1
  rw [up2, up2] at h2
  generalize hP : r * A + s * B + t = P at h0 h1 h2
  generalize hQ : r' * A + s' * B + t' = Q at h0 h1 h2
  rw [Int.mul_add, Int.mul_add, h0] at h1 h2
  have i1 : k3 * r = g3 * r' := by omega
  have i2 : k3 * s = g3 * s' := by omega
  refine ⟨i1, i2, ?_⟩
  rw [← hP, ← hQ, Int.mul_add, Int.mul_add, Int.mul_add, Int.mul_add, ← Int.mul_assoc, ← Int.mul_assoc, ← Int.mul_assoc, ← Int.mul_assoc, i1, i2] at h0
  omega
theorem four {M N : Ch} {A B g0 g1 g2 g3 k0 k1 k2 k3 : Int} {L0 L1 L2 L3 : V3} (hM : det M ≠ 0) (p0 : 0 < g0) (p1 : 0 < g1) (p2 : 0 < g2) (p3 : 0 < g3) (q3 : 0 < k3)
    (m0 : num M (A, B, 1) = sc g0 L0) (m1 : num M (A + 1, B, 1) = sc g1 L1) (m2 : num M (A, B + 1, 1) = sc g2 L2) (m3 : num M (A + 1, B + 1, 1) = sc g3 L3)
    (n0 : num N (A, B, 1) = sc k0 L0) (n1 : num N (A + 1, B, 1) = sc k1 L1) (n2 : num N (A, B + 1, 1) = sc k2 L2) (n3 : num N (A + 1, B + 1, 1) = sc k3 L3) : Alike M N := by
  obtain ⟨⟨a, b, c⟩, ⟨d, e, f⟩, ⟨g, h, i⟩⟩ := M
  obtain ⟨⟨a', b', c'⟩, ⟨d', e', f'⟩, ⟨g', h', i'⟩⟩ := N
  obtain ⟨x0, y0, w0⟩ := L0
  obtain ⟨x1, y1, w1⟩ := L1
  obtain ⟨x2, y2, w2⟩ := L2
  obtain ⟨x3, y3, w3⟩ := L3
  simp only [num, dt, sc, Prod.mk.injEq, Int.mul_one] at m0 m1 m2 m3 n0 n1 n2 n3
  obtain ⟨m0a, m0b, m0c⟩ := m0
  obtain ⟨m1a, m1b, m1c⟩ := m1
  obtain ⟨m2a, m2b, m2c⟩ := m2
  obtain ⟨m3a, m3b, m3c⟩ := m3
  obtain ⟨n0a, n0b, n0c⟩ := n0
  obtain ⟨n1a, n1b, n1c⟩ := n1
  obtain ⟨n2a, n2b, n2c⟩ := n2
  obtain ⟨n3a, n3b, n3c⟩ := n3
  have dL : g0 * g1 * g2 * det ((x0, y0, w0), (x1, y1, w1), (x2, y2, w2)) = det ((a, b, c), (d, e, f), (g, h, i)) := by
    rw [← det_sc, ← m0a, ← m0b, ← m0c, ← m1a, ← m1b, ← m1c, ← m2a, ← m2b, ← m2c, up1, up1, up1, up2, up2, up2, det_sub, det_add]
  have hd : det ((x0, y0, w0), (x1, y1, w1), (x2, y2, w2)) ≠ 0 := fun z => hM (by rw [← dL, z, Int.mul_zero])
  obtain ⟨c0, c1, c2⟩ := cramer (key m0a m1a m2a m3a n0a n1a n2a n3a) (key m0b m1b m2b m3b n0b n1b n2b n3b) (key m0c m1c m2c m3c n0c n1c n2c n3c) hd
  have c0 : k3 * g0 = g3 * k0 := by omega
  have c1 : k3 * g1 = g3 * k1 := by omega
  have c2 : k3 * g2 = g3 * k2 := by omega
  obtain ⟨ra, rb, rc⟩ := row m0a m1a m2a n0a n1a n2a c0 c1 c2
  obtain ⟨sa, sb, sc'⟩ := row m0b m1b m2b n0b n1b n2b c0 c1 c2
  obtain ⟨ta, tb, tc⟩ := row m0c m1c m2c n0c n1c n2c c0 c1 c2
  exact ⟨k3, g3, q3, p3, by simp only [scC, sc, ra, rb, rc, sa, sb, sc', ta, tb, tc]⟩
end K31

namespace K31
open Mi
/-! ### charts: what they send, alike charts -/
theorem sqn (g : Int) : 0 ≤ g * g := by
  rcases Int.le_total 0 g with h | h
  · exact Int.mul_nonneg h h
  · exact Int.mul_nonneg_of_nonpos_of_nonpos h h
theorem sqp {g : Int} (h : g ≠ 0) : 1 ≤ g * g := by
  have h1 := sqn g
  have h2 : g * g ≠ 0 := Int.mul_ne_zero h h
  omega
theorem sees_pos {g h i far x y : Int} (h0 : (g ≠ 0 ∨ h ≠ 0) ∨ 0 < i) (hf : far = (g.natAbs : Int) + h.natAbs + i.natAbs + 1) (hx : x = 0 ∨ x = 1) (hy : y = 0 ∨ y = 1) :
    0 < g * (g * far + x) + h * (h * far + y) + i := by
  have e : g * (g * far + x) + h * (h * far + y) + i = (g * g + h * h) * far + g * x + h * y + i := by grind
  rw [e]
  by_cases z : g ≠ 0 ∨ h ≠ 0
  · have h1 : 1 ≤ g * g + h * h := by
      have a1 := sqn g
      have a2 := sqn h
      rcases z with z | z
      · have := sqp z; omega
      · have := sqp z; omega
    have h2 : 1 * far ≤ (g * g + h * h) * far := Int.mul_le_mul_of_nonneg_right h1 (by omega)
    have h3 : -(g.natAbs : Int) ≤ g * x := by rcases hx with rfl | rfl <;> simp <;> omega
    have h4 : -(h.natAbs : Int) ≤ h * y := by rcases hy with rfl | rfl <;> simp <;> omega
    omega
  · have : g = 0 ∧ h = 0 := by omega
    obtain ⟨rfl, rfl⟩ := this
    simp
    omega
def sentD (M : Ch) (p : V3) : D := if 0 < (num M p).2.2 then spD3 (num M p).1 (num M p).2.1 (num M p).2.2 else .non
theorem num_sc {M : Ch} {s : Int} {p : V3} : num (scC s M) p = sc s (num M p) := by
  simp only [num, scC, sc, dt, Prod.mk.injEq]
  refine ⟨?_, ?_, ?_⟩ <;> grind
theorem sentD_sc {M : Ch} {s : Int} {p : V3} (hs : 0 < s) : sentD (scC s M) p = sentD M p := by
  unfold sentD
  rw [num_sc]
  have : 0 < s * (num M p).2.2 ↔ 0 < (num M p).2.2 := ⟨fun h => by
    rcases Int.lt_or_le 0 (num M p).2.2 with z | z
    · exact z
    · have := Int.mul_nonpos_of_nonneg_of_nonpos (Int.le_of_lt hs) z; omega, fun h => Int.mul_pos hs h⟩
  simp only [sc, this]
  split
  · exact spD3_scale hs
  · rfl
theorem sent_alike {M N : Ch} (h : Alike M N) (p : V3) : sentD M p = sentD N p := by
  obtain ⟨s, t, hs, ht, e⟩ := h
  rw [← sentD_sc hs, e, sentD_sc ht]
theorem sent_parts {M N : Ch} {p : V3} (h : sentD M p = sentD N p) (hw : 0 < (num M p).2.2) : ∃ g k L, 0 < g ∧ 0 < k ∧ num M p = sc g L ∧ num N p = sc k L := by
  unfold sentD at h
  rw [if_pos hw] at h
  by_cases hv : 0 < (num N p).2.2
  · rw [if_pos hv] at h
    obtain ⟨g, a, b, c, hg, e1, e2, e3, _, _, _, e4, _⟩ := low_parts (x := (num M p).1) (y := (num M p).2.1) hw
    obtain ⟨k, a', b', c', hk, f1, f2, f3, _, _, _, f4, _⟩ := low_parts (x := (num N p).1) (y := (num N p).2.1) hv
    rw [e4, f4] at h
    injection h with h
    simp only [List.cons.injEq, D.int.injEq, and_true] at h
    obtain ⟨rfl, rfl, rfl⟩ := h
    exact ⟨g, k, (a, b, c), hg, hk, by simp only [sc, ← e1, ← e2, ← e3], by simp only [sc, ← f1, ← f2, ← f3]⟩
  · rw [if_neg hv] at h
    unfold spD3 at h
    cases h
def Sees (M : Ch) : Prop := det M ≠ 0 ∧ ((M.2.2.1 ≠ 0 ∨ M.2.2.2.1 ≠ 0) ∨ 0 ≤ M.2.2.2.2)
theorem sees_row {M : Ch} (h : Sees M) : (M.2.2.1 ≠ 0 ∨ M.2.2.2.1 ≠ 0) ∨ 0 < M.2.2.2.2 := by
  obtain ⟨⟨a, b, c⟩, ⟨d, e, f⟩, ⟨g, h, i⟩⟩ := M
  obtain ⟨h1, h2⟩ := h
  simp only at h2 ⊢
  by_cases z : g ≠ 0 ∨ h ≠ 0
  · exact .inl z
  · refine .inr ?_
    have : g = 0 ∧ h = 0 := by omega
    obtain ⟨rfl, rfl⟩ := this
    have : i ≠ 0 := by
      rintro rfl
      exact h1 (by simp [det])
    omega
def farC (M : Ch) : Int := (M.2.2.1.natAbs : Int) + M.2.2.2.1.natAbs + M.2.2.2.2.natAbs + 1
def spotC (M : Ch) (x y : Int) : V3 := (M.2.2.1 * farC M + x, M.2.2.2.1 * farC M + y, 1)
theorem spot_pos {M : Ch} {x y : Int} (h : Sees M) (hx : x = 0 ∨ x = 1) (hy : y = 0 ∨ y = 1) : 0 < (num M (spotC M x y)).2.2 := by
  have := sees_pos (sees_row h) rfl hx hy
  simp only [num, dt, spotC, Int.mul_one]
  exact this
theorem alike_four {M N : Ch} (h : Sees M) (e0 : sentD M (spotC M 0 0) = sentD N (spotC M 0 0)) (e1 : sentD M (spotC M 1 0) = sentD N (spotC M 1 0)) (e2 : sentD M (spotC M 0 1) = sentD N (spotC M 0 1))
    (e3 : sentD M (spotC M 1 1) = sentD N (spotC M 1 1)) : Alike M N := by
  obtain ⟨g0, k0, L0, p0, q0, m0, n0⟩ := sent_parts e0 (spot_pos h (.inl rfl) (.inl rfl))
  obtain ⟨g1, k1, L1, p1, q1, m1, n1⟩ := sent_parts e1 (spot_pos h (.inr rfl) (.inl rfl))
  obtain ⟨g2, k2, L2, p2, q2, m2, n2⟩ := sent_parts e2 (spot_pos h (.inl rfl) (.inr rfl))
  obtain ⟨g3, k3, L3, p3, q3, m3, n3⟩ := sent_parts e3 (spot_pos h (.inr rfl) (.inr rfl))
  simp only [spotC, Int.add_zero] at m0 m1 m2 m3 n0 n1 n2 n3
  exact four h.1 p0 p1 p2 p3 q3 m0 m1 m2 m3 n0 n1 n2 n3
/-- alike, as the law asks it: at a place where one is not 0 -/
theorem alike_cross {n f : Int} {l : List (Int × Int)} (hn : n ≠ 0) (hm : (n, f) ∈ l) :
    (∃ s t : Int, 0 < s ∧ 0 < t ∧ ∀ q ∈ l, s * q.1 = t * q.2) ↔ (0 < n * f ∧ ∀ q ∈ l, q.1 * f = q.2 * n) := by
  constructor
  · rintro ⟨s, t, hs, ht, h⟩
    have h0 := h _ hm
    simp only at h0
    have e : t * (n * f) = s * (n * n) := by
      rw [Int.mul_left_comm t n f, ← h0, Int.mul_left_comm n s n]
    refine ⟨?_, fun q hq => ?_⟩
    · have h1 : 0 < s * (n * n) := Int.mul_pos hs (by have := sqp hn; omega)
      rw [← e] at h1
      rcases Int.lt_or_le 0 (n * f) with z | z
      · exact z
      · have := Int.mul_nonpos_of_nonneg_of_nonpos (Int.le_of_lt ht) z; omega
    · have h1 := h q hq
      have h2 : t * (q.1 * f) = t * (q.2 * n) := by
        rw [Int.mul_left_comm t q.1 f, ← h0, ← Int.mul_assoc t, ← h1]
        rw [Int.mul_left_comm, Int.mul_assoc]
      exact Int.eq_of_mul_eq_mul_left (by omega) h2
  · rintro ⟨h0, h⟩
    refine ⟨f.natAbs, n.natAbs, ?_, by omega, fun q hq => ?_⟩
    · have : f ≠ 0 := by rintro rfl; simp at h0
      omega
    · have h1 := h q hq
      rcases Int.lt_or_le 0 n with z | z
      · have : 0 < f := by
          rcases Int.lt_or_le 0 f with y | y
          · exact y
          · have := Int.mul_nonpos_of_nonneg_of_nonpos (Int.le_of_lt z) y; omega
        have e1 : (f.natAbs : Int) = f := by omega
        have e2 : (n.natAbs : Int) = n := by omega
        rw [e1, e2, Int.mul_comm, h1, Int.mul_comm]
      · have : f < 0 := by
          rcases Int.lt_or_le f 0 with y | y
          · exact y
          · have := Int.mul_nonpos_of_nonpos_of_nonneg z y; omega
        have e1 : (f.natAbs : Int) = -f := by omega
        have e2 : (n.natAbs : Int) = -n := by omega
        rw [e1, e2, Int.neg_mul, Int.neg_mul, Int.mul_comm, h1, Int.mul_comm]
end K31

namespace K31
open PySem PySem.Spec PyProof.Rows L2 Mi
variable {S T : Sto} {N : Nat}
/-! ### the program's charts -/
abbrev vD (p : V3) : D := t3 p.1 p.2.1 p.2.2
abbrev chD (M : Ch) : D := .tup [vD M.1, vD M.2.1, vD M.2.2]
section
variable {a b c d e f : Int} {i j : Nat} [Bd a i] [Bd b i] [Bd c i] [Bd d j] [Bd e j] [Bd f j]
theorem cross_eq (hi : i ≤ 60000) (hj : j ≤ 60000) : m_cross [t3 a b c, t3 d e f] S = .ok (t3 (b * f - c * e) (c * d - a * f) (a * e - b * d)) S := ens_eq (by
  simp [m_cross, b_cross, startE, hi, hj])
theorem dot_eq (hi : i ≤ 60000) (hj : j ≤ 60000) : m_dot [t3 a b c, t3 d e f] S = .ok (.int (a * d + b * e + c * f)) S := ens_eq (by
  simp [m_dot, b_dot, startE, hi, hj])
end
/-- charts of the law: at most 10^6 in each place, and not parted from sight -/
structure ChOk (M : Ch) : Prop where
  b1 : Bd M.1.1 20
  b2 : Bd M.1.2.1 20
  b3 : Bd M.1.2.2 20
  b4 : Bd M.2.1.1 20
  b5 : Bd M.2.1.2.1 20
  b6 : Bd M.2.1.2.2 20
  b7 : Bd M.2.2.1 20
  b8 : Bd M.2.2.2.1 20
  b9 : Bd M.2.2.2.2 20
  sees : Sees M
theorem det_eq {M : Ch} (h : ChOk M) : m_determinant [chD M] S = .ok (.int (det M)) S := ens_eq (by
  obtain ⟨⟨a, b, c⟩, ⟨d, e, f⟩, ⟨g, h', i⟩⟩ := M
  obtain ⟨b1, b2, b3, b4, b5, b6, b7, b8, b9, _⟩ := h
  simp only at b1 b2 b3 b4 b5 b6 b7 b8 b9
  have c1 := fun S => cross_eq (S := S) (a := d) (b := e) (c := f) (d := g) (e := h') (f := i) (i := 20) (j := 20) (by decide) (by decide)
  have c2 := fun S => dot_eq (S := S) (a := a) (b := b) (c := c) (d := e * i - f * h') (e := f * g - d * i) (f := d * h' - e * g) (i := 20) (by decide) (by decide)
  simp [m_determinant, b_determinant, startE, Ens_is (c1 _), Ens_is (c2 _)]
  simp only [det]; clear c1 c2 b1 b2 b3 b4 b5 b6 b7 b8 b9; grind)
theorem isrow_eq {p : V3} : m_is_tuple [vD p, .int 3] S = .ok (.bl true) S := by
  rw [is_tuple_eq]; rfl
theorem ne_of_eq {a b : D} {c : Bool} (h : eqD S a b = some (.bl c)) : neD S a b = some (.bl (!c)) := by
  unfold eqD at h
  unfold neD
  split at h
  · rename_i hc
    rw [if_pos hc]
    injection h with h
    injection h with h
    rw [h]
  · cases h
theorem t2_sh {i k : Int} : (t2 i k).sh 1 := D.sh.tup (n := 0) fun d hd => by
  simp at hd
  rcases hd with rfl | rfl <;> exact sh_int
theorem t2_pure {i k : Int} : (t2 i k).pure = true := by simp [D.pure, D.pures]
theorem ne_t2 {a b x y : Int} : neD S (t2 a b) (t2 x y) = some (.bl (!decide (a = x ∧ b = y))) := ne_of_eq (by
  rw [eqD_pure rfl rfl (t2_sh.up (by decide)) (t2_sh.up (by decide)) t2_pure t2_pure]
  congr 2
  exact decide_eq_decide.mpr ⟨fun h => by simp at h; exact h, fun h => by rw [h.1, h.2]⟩)
theorem sees_eq {M : Ch} (h : ChOk M) : m_sees_something [chD M] S = .ok (.bl true) S := ens_eq (by
  obtain ⟨⟨a, b, c⟩, ⟨d, e, f⟩, ⟨g, h', i⟩⟩ := M
  have hs := h.sees.2
  simp only at hs
  simp [m_sees_something, b_sees_something, startE, ne_t2]
  omega)
end K31

namespace K31
open PySem PySem.Spec PyProof.Rows L2 Mi
variable {S T : Sto} {N : Nat}
section
variable {env : En} {Pl : List D → Sto → Prop} {g g1 : GM} {tt tt1 : BM} {te m1 : TM} {gd : Sto → Prop} {acc : List D} {d : D} {ds : List D} {vs1 : List Nat}
theorem lc2_nil (h : gd S) (k : Pl acc S) : Ens (lcD2 g tt m1 g1 tt1 te vs1 gd env [] S acc) Pl := by
  rw [lcD2, if_pos h]
  exact k
theorem lc2_cons (h : gd S) (hg : Ens (g d env S) fun env1 S1 => Ens (tt env1 S1) fun b S2 => b = true ∧ Ens (m1 env1 S2) fun v S3 => ∃ l1, v = .tup l1 ∧
    Ens (lcD g1 tt1 te (fun _ => True) (wipeE env1 vs1) l1 S3 acc) fun acc' S4 => Ens (lcD2 g tt m1 g1 tt1 te vs1 gd env ds S4 acc') Pl) :
    Ens (lcD2 g tt m1 g1 tt1 te vs1 gd env (d :: ds) S acc) Pl := by
  rw [lcD2, if_pos h]
  revert hg
  cases g d env S with
  | bad => exact id
  | exc C fs S1 => exact id
  | ok env1 S1 =>
    simp only [Ens_ok]
    cases tt env1 S1 with
    | bad => exact id
    | exc C fs S1 => exact id
    | ok b S2 =>
      simp only [Ens_ok]
      rintro ⟨rfl, hg⟩
      rw [if_pos rfl]
      revert hg
      cases m1 env1 S2 with
      | bad => exact id
      | exc C fs S1 => exact id
      | ok v S3 =>
        simp only [Ens_ok]
        rintro ⟨l1, rfl, hg⟩
        simpa using hg
end
theorem chart_eq {M : Ch} (h : ChOk M) : m_is_chart_value [chD M] S = .ok (.bl true) S := ens_eq (by
  have r : ∀ (p : V3) S, m_is_tuple [vD p, .int 3] S = .ok (.bl true) S := fun p S => isrow_eq
  have e1 := fun S => det_eq (S := S) h
  have e2 := fun S => sees_eq (S := S) h
  have e3 : ∀ S, m_is_tuple [chD M, .int 3] S = .ok (.bl true) S := fun S => by rw [is_tuple_eq]; rfl
  have hd : det M ≠ 0 := h.sees.1
  have e4 : ∀ (i : Int) S, m_is_int [.int i] S = .ok (.bl true) S := fun i S => is_int_eq
  have a3 : ∀ S, allD S [.lst [.bl true, .bl true, .bl true]] = some (.bl true) := fun S => rfl
  have a9 : ∀ S, allD S [.lst [.bl true, .bl true, .bl true, .bl true, .bl true, .bl true, .bl true, .bl true, .bl true]] = some (.bl true) := fun S => rfl
  simp [m_is_chart_value, b_is_chart_value, startE, Ens_is (e3 _), Ens_lc_cons, Ens_lc_nil, Ens_is (r _ _), wipeE, a3, mLc2]
  refine lc2_cons trivial ?_
  simp [Ens_lc_cons, Ens_lc_nil, wipeE, Ens_is (e4 _ _)]
  refine lc2_cons trivial ?_
  simp [Ens_lc_cons, Ens_lc_nil, wipeE, Ens_is (e4 _ _)]
  refine lc2_cons trivial ?_
  simp [Ens_lc_cons, Ens_lc_nil, wipeE, Ens_is (e4 _ _)]
  refine lc2_nil trivial ?_
  simp [a9, Ens_is (e1 _), Ens_is (e2 _), hd])
theorem need_eq {M : Ch} (h : ChOk M) : m_need_chart [chD M] S = .ok .non S := ens_eq (by
  have e := fun S => chart_eq (S := S) h
  simp [m_need_chart, b_need_chart, startE, Ens_is (e _)])
end K31

namespace K31
open PySem PySem.Spec PyProof.Rows L2 Mi
variable {S T : Sto} {N : Nat}
theorem nums_eq {M : Ch} {x y w : Int} {j : Nat} [Bd x j] [Bd y j] [Bd w j] (hj : j ≤ 2000) (h : ChOk M) : m_numbers_of [chD M, t3 x y w] S = .ok (vD (num M (x, y, w))) S := ens_eq (by
  obtain ⟨⟨a, b, c⟩, ⟨d, e, f⟩, ⟨g, h', i⟩⟩ := M
  obtain ⟨b1, b2, b3, b4, b5, b6, b7, b8, b9, _⟩ := h
  simp only at b1 b2 b3 b4 b5 b6 b7 b8 b9
  have hj' : j ≤ 60000 := by omega
  have c1 := fun S => dot_eq (S := S) (a := a) (b := b) (c := c) (d := x) (e := y) (f := w) (i := 20) (j := j) (by decide) hj'
  have c2 := fun S => dot_eq (S := S) (a := d) (b := e) (c := f) (d := x) (e := y) (f := w) (i := 20) (j := j) (by decide) hj'
  have c3 := fun S => dot_eq (S := S) (a := g) (b := h') (c := i) (d := x) (e := y) (f := w) (i := 20) (j := j) (by decide) hj'
  simp [m_numbers_of, b_numbers_of, startE, Ens_is (c1 _), Ens_is (c2 _), Ens_is (c3 _), num, dt])
theorem sent_eq {M : Ch} {x y w : Int} {j : Nat} [Bd x j] [Bd y j] [Bd w j] (hj : j ≤ 2000) (h : ChOk M) : m_sent_to [chD M, t3 x y w] S = .ok (sentD M (x, y, w)) S := ens_eq (by
  have e := fun S => nums_eq (S := S) (x := x) (y := y) (w := w) hj h
  have b : Bd (num M (x, y, w)).2.2 (20 + j + (20 + j) + 1 + (20 + j) + 1) := by
    have := h.b7
    have := h.b8
    have := h.b9
    unfold num dt
    infer_instance
  simp [m_sent_to, b_sent_to, startE, Ens_is (e _)]
  by_cases z : 0 < (num M (x, y, w)).2.2
  · have l := fun S => low3_eq (S := S) (x := (num M (x, y, w)).1) (y := (num M (x, y, w)).2.1) (w := (num M (x, y, w)).2.2) (by omega) z
    simp [z, sentD, Ens_is (l _)]
    intro hq; omega
  · simp [z, sentD])
theorem lnums_eq {M : Ch} {x y w : Int} {j : Nat} [Bd x j] [Bd y j] [Bd w j] (hj : j ≤ 2000) (h : ChOk M) : m__law_numbers [chD M, t3 x y w] S = .ok (vD (num M (x, y, w))) S := ens_eq (by
  obtain ⟨⟨a, b, c⟩, ⟨d, e, f⟩, ⟨g, h', i⟩⟩ := M
  obtain ⟨b1, b2, b3, b4, b5, b6, b7, b8, b9, _⟩ := h
  simp only at b1 b2 b3 b4 b5 b6 b7 b8 b9
  have hj' : j ≤ 60000 := by omega
  simp [m__law_numbers, b__law_numbers, startE, Ens_lc_cons, Ens_lc_nil, wipeE, num, dt, hj', tupleD])
theorem lsent_eq {M : Ch} {x y w : Int} {j : Nat} [Bd x j] [Bd y j] [Bd w j] (hj : j ≤ 2000) (h : ChOk M) : m__law_sent [chD M, t3 x y w] S = .ok (sentD M (x, y, w)) S := ens_eq (by
  have e := fun S => lnums_eq (S := S) (x := x) (y := y) (w := w) hj h
  have b : Bd (num M (x, y, w)).2.2 (20 + j + (20 + j) + 1 + (20 + j) + 1) := by
    have := h.b7
    have := h.b8
    have := h.b9
    unfold num dt
    infer_instance
  simp [m__law_sent, b__law_sent, startE, Ens_is (e _)]
  by_cases z : 0 < (num M (x, y, w)).2.2
  · have l := fun S => lspot_eq (S := S) (x := (num M (x, y, w)).1) (y := (num M (x, y, w)).2.1) (w := (num M (x, y, w)).2.2) (by omega) z
    simp [z, sentD, Ens_is (l _)]
    intro hq; omega
  · simp [z, sentD])
end K31

namespace K31
open PySem PySem.Spec PyProof.Rows L2 Mi
variable {S T : Sto} {N : Nat}
theorem sent_cases (M : Ch) (p : V3) : sentD M p = .non ∨ ∃ a b c, sentD M p = t3 a b c := by
  unfold sentD
  split
  · right
    exact ⟨_, _, _, rfl⟩
  · exact .inl rfl
theorem t3_sh {i j k : Int} : (t3 i j k).sh 1 := D.sh.tup (n := 0) fun d hd => by
  simp at hd
  rcases hd with rfl | rfl | rfl <;> exact sh_int
theorem sent_sh (M : Ch) (p : V3) : (sentD M p).sh 60 := by
  rcases sent_cases M p with e | ⟨a, b, c, e⟩ <;> rw [e]
  · exact sh_non
  · exact t3_sh.up (by decide)
theorem sent_pure (M : Ch) (p : V3) : (sentD M p).pure = true := by
  rcases sent_cases M p with e | ⟨a, b, c, e⟩ <;> rw [e] <;> simp [D.pure, D.pures]
theorem sent_der (M : Ch) (p : V3) : der S (sentD M p) = sentD M p := by
  rcases sent_cases M p with e | ⟨a, b, c, e⟩ <;> rw [e] <;> rfl
noncomputable def partB (M N : Ch) (p : V3) : Bool := by
  classical exact decide (sentD M p ≠ sentD N p)
theorem partB_iff {M N : Ch} {p : V3} : partB M N p = true ↔ sentD M p ≠ sentD N p := by
  unfold partB; simp
theorem ne_sent {M N : Ch} {p : V3} : neD S (sentD M p) (sentD N p) = some (.bl (partB M N p)) := by
  have e : eqD S (sentD M p) (sentD N p) = some (.bl (!partB M N p)) := by
    rw [eqD_pure (sent_der ..) (sent_der ..) (sent_sh ..) (sent_sh ..) (sent_pure ..) (sent_pure ..)]
    congr 2
    unfold partB
    by_cases z : sentD M p = sentD N p <;> simp [z]
  rw [ne_of_eq e, Bool.not_not]
theorem low1 {x y : Int} : spD3 x y 1 = t3 x y 1 := by
  have e : g3 x y 1 = 1 := by
    have h1 := g3_le (x := x) (y := y) (w := 1) (by decide)
    have h2 := g3_pos (x := x) (y := y) (w := 1) (by decide)
    omega
  exact spD3_low e
/-- the four spots, in order -/
def four4 : List (Int × Int) := [(0, 0), (1, 0), (0, 1), (1, 1)]
noncomputable def partS (M N : Ch) : Option V3 :=
  if partB M N (spotC M 0 0) then some (spotC M 0 0) else if partB M N (spotC M 1 0) then some (spotC M 1 0) else if partB M N (spotC M 0 1) then some (spotC M 0 1) else if partB M N (spotC M 1 1) then some (spotC M 1 1) else none
noncomputable def partD (M N : Ch) : D := match partS M N with
  | some p => vD p
  | none => .non
theorem partS_none {M N : Ch} (h : ChOk M) : partS M N = none ↔ Alike M N := by
  have f := fun p => partB_iff (M := M) (N := N) (p := p)
  constructor
  · intro e
    unfold partS at e
    have z : ∀ p, ¬ partB M N p = true → sentD M p = sentD N p := fun p q => by
      rw [f] at q
      exact Classical.not_not.1 q
    split at e
    · cases e
    · rename_i h0
      split at e
      · cases e
      · rename_i h1
        split at e
        · cases e
        · rename_i h2
          split at e
          · cases e
          · rename_i h3
            exact alike_four h.sees (z _ h0) (z _ h1) (z _ h2) (z _ h3)
  · intro a
    have z : ∀ p, partB M N p = false := fun p => by
      have := sent_alike a p
      unfold partB; simp [this]
    simp [partS, z]
theorem partS_some {M N : Ch} {p : V3} (e : partS M N = some p) : sentD M p ≠ sentD N p ∧ ∃ x y : Int, p = spotC M x y ∧ (x = 0 ∨ x = 1) ∧ (y = 0 ∨ y = 1) := by
  unfold partS at e
  split at e
  · rename_i h
    cases e
    exact ⟨partB_iff.1 h, 0, 0, rfl, by decide, by decide⟩
  · split at e
    · rename_i h
      cases e
      exact ⟨partB_iff.1 h, 1, 0, rfl, by decide, by decide⟩
    · split at e
      · rename_i h
        cases e
        exact ⟨partB_iff.1 h, 0, 1, rfl, by decide, by decide⟩
      · split at e
        · rename_i h
          cases e
          exact ⟨partB_iff.1 h, 1, 1, rfl, by decide, by decide⟩
        · cases e
end K31

namespace K31
open PySem PySem.Spec PyProof.Rows L2 Mi
variable {S T : Sto} {N : Nat}
theorem farC_bd {M : Ch} (h : ChOk M) : Bd (farC M) 22 := by
  obtain ⟨⟨a, b, c⟩, ⟨d, e, f⟩, ⟨g, h', i⟩⟩ := M
  have h1 := h.b7.lo
  have h2 := h.b7.hi
  have h3 := h.b8.lo
  have h4 := h.b8.hi
  have h5 := h.b9.lo
  have h6 := h.b9.hi
  simp only at h1 h2 h3 h4 h5 h6
  refine bd_lt ?_ ?_ <;> unfold farC <;> simp only <;> omega
theorem abs_if (i : Int) : (if i < 0 then -i else i) = (i.natAbs : Int) := by split <;> omega
theorem parting_eq {M N : Ch} (h : ChOk M) (k : ChOk N) : m_parting_spot [chD M, chD N] S = .ok (partD M N) S := ens_eq (by
  have bf := farC_bd h
  have b7 := h.b7
  have b8 := h.b8
  have hm : ∀ x y : Int, (x = 0 ∨ x = 1) → (y = 0 ∨ y = 1) → ∀ S, m_sent_to [chD M, vD (spotC M x y)] S = .ok (sentD M (spotC M x y)) S := by
    intro x y hx hy S
    have bx : Bd x 64 := by rcases hx with rfl | rfl <;> infer_instance
    have by_ : Bd y 64 := by rcases hy with rfl | rfl <;> infer_instance
    have c1 : Bd (M.2.2.1 * farC M + x) 107 := inferInstanceAs (Bd _ (20 + 22 + 64 + 1))
    have c2 : Bd (M.2.2.2.1 * farC M + y) 107 := inferInstanceAs (Bd _ (20 + 22 + 64 + 1))
    have c3 : Bd 1 107 := ⟨by unfold Sm; decide⟩
    exact sent_eq (x := M.2.2.1 * farC M + x) (y := M.2.2.2.1 * farC M + y) (w := 1) (j := 107) (by decide) h
  have hn : ∀ x y : Int, (x = 0 ∨ x = 1) → (y = 0 ∨ y = 1) → ∀ S, m_sent_to [chD N, vD (spotC M x y)] S = .ok (sentD N (spotC M x y)) S := by
    intro x y hx hy S
    have bx : Bd x 64 := by rcases hx with rfl | rfl <;> infer_instance
    have by_ : Bd y 64 := by rcases hy with rfl | rfl <;> infer_instance
    have c1 : Bd (M.2.2.1 * farC M + x) 107 := inferInstanceAs (Bd _ (20 + 22 + 64 + 1))
    have c2 : Bd (M.2.2.2.1 * farC M + y) 107 := inferInstanceAs (Bd _ (20 + 22 + 64 + 1))
    have c3 : Bd 1 107 := ⟨by unfold Sm; decide⟩
    exact sent_eq (x := M.2.2.1 * farC M + x) (y := M.2.2.2.1 * farC M + y) (w := 1) (j := 107) (by decide) k
  have l : ∀ (x y : Int) S, m_lowest_spot [.int x, .int y, .int 1] S = .ok (t3 x y 1) S := fun x y S => by
    rw [low3_eq (m := 64) (by decide) (by decide), low1]
  have hf : (M.2.2.1.natAbs : Int) + M.2.2.2.1.natAbs + M.2.2.2.2.natAbs + 1 = farC M := rfl
  simp [m_parting_spot, b_parting_spot, startE, abs_if, hf]
  have m0 := hm 0 0 (.inl rfl) (.inl rfl)
  have m1 := hm 1 0 (.inr rfl) (.inl rfl)
  have m2 := hm 0 1 (.inl rfl) (.inr rfl)
  have m3 := hm 1 1 (.inr rfl) (.inr rfl)
  have n0 := hn 0 0 (.inl rfl) (.inl rfl)
  have n1 := hn 1 0 (.inr rfl) (.inl rfl)
  have n2 := hn 0 1 (.inl rfl) (.inr rfl)
  have n3 := hn 1 1 (.inr rfl) (.inr rfl)
  unfold partD partS
  simp only [spotC, Int.add_zero] at m0 m1 m2 m3 n0 n1 n2 n3 ⊢
  rw [EnsS_for_cons]
  simp [Ens_is (l _ _ _), Ens_is (m0 _), Ens_is (n0 _), ne_sent]
  refine ⟨fun q => by simp [q], fun q0 => ?_⟩
  rw [EnsS_for_cons]
  simp [Ens_is (l _ _ _), Ens_is (m1 _), Ens_is (n1 _), ne_sent, q0]
  refine ⟨fun q => by simp [q], fun q1 => ?_⟩
  rw [EnsS_for_cons]
  simp [Ens_is (l _ _ _), Ens_is (m2 _), Ens_is (n2 _), ne_sent, q1]
  refine ⟨fun q => by simp [q], fun q2 => ?_⟩
  rw [EnsS_for_cons]
  simp [Ens_is (l _ _ _), Ens_is (m3 _), Ens_is (n3 _), ne_sent, q2]
  refine ⟨fun q => by simp [q], fun q3 => ?_⟩
  rw [EnsS_for_nil]
  simp [q3])
end K31

namespace K31
open PySem PySem.Spec PyProof.Rows L2 Mi
variable {S T : Sto} {N : Nat}
/-- what judge_charts tells -/
noncomputable def toldD (M N : Ch) : D := match partS M N with
  | some p => .tup [.str "parted", vD p]
  | none => .tup [.str "alike"]
theorem judge_eq {M N : Ch} (h : ChOk M) (k : ChOk N) : m_judge_charts [chD M, chD N] S = .ok (toldD M N) S := ens_eq (by
  have e1 := fun S => need_eq (S := S) h
  have e2 := fun S => need_eq (S := S) k
  have e3 := fun S => parting_eq (S := S) h k
  simp [m_judge_charts, b_judge_charts, startE, Ens_is (e1 _), Ens_is (e2 _), Ens_is (e3 _)]
  unfold toldD partD
  cases partS M N with
  | none => simp [isD]; rfl
  | some p => simp [isD]; rfl)
/-! alike, by the law -/
def nine (M : Ch) : List Int := [M.1.1, M.1.2.1, M.1.2.2, M.2.1.1, M.2.1.2.1, M.2.1.2.2, M.2.2.1, M.2.2.2.1, M.2.2.2.2]
theorem alike_nine {M N : Ch} : Alike M N ↔ ∃ s t : Int, 0 < s ∧ 0 < t ∧ ∀ q ∈ (nine M).zip (nine N), s * q.1 = t * q.2 := by
  unfold Alike
  simp only [scC, sc, Prod.mk.injEq, nine, List.zip_cons_cons, List.zip_nil_right, List.forall_mem_cons]
  constructor
  · rintro ⟨s, t, hs, ht, ⟨a, b, c⟩, ⟨d, e, f⟩, g, h, i⟩
    exact ⟨s, t, hs, ht, a, b, c, d, e, f, g, h, i, by simp⟩
  · rintro ⟨s, t, hs, ht, a, b, c, d, e, f, g, h, i, _⟩
    exact ⟨s, t, hs, ht, ⟨a, b, c⟩, ⟨d, e, f⟩, g, h, i⟩
theorem alike_at {M N : Ch} {i : Nat} {n f : Int} (e1 : (nine M)[i]? = some n) (e2 : (nine N)[i]? = some f) (hn : n ≠ 0) :
    Alike M N ↔ (0 < n * f ∧ ∀ q ∈ (nine M).zip (nine N), q.1 * f = q.2 * n) := by
  rw [alike_nine]
  refine alike_cross hn ?_
  have : ((nine M).zip (nine N))[i]? = some (n, f) := by rw [List.getElem?_zip_eq_some]; exact ⟨e1, e2⟩
  exact List.mem_of_getElem? this
theorem dec_alike (M N : Ch) : ∃ b : Bool, (b = true ↔ Alike M N) := by
  by_cases h : Alike M N
  · exact ⟨true, by simp [h]⟩
  · exact ⟨false, by simp [h]⟩
noncomputable def alikeB (M N : Ch) : Bool := by
  classical exact decide (Alike M N)
theorem alikeB_iff {M N : Ch} : alikeB M N = true ↔ Alike M N := by unfold alikeB; simp
end K31

namespace K31
open PySem PySem.Spec PyProof.Rows L2 Mi
variable {S T : Sto} {N : Nat}
def en9 (M : Ch) : List (Int × Int) := List.zip [0, 1, 2, 3, 4, 5, 6, 7, 8] (nine M)
theorem en9_mem {M : Ch} {q : Int × Int} (h : q ∈ en9 M) : ∃ i : Nat, i < 9 ∧ q.1 = i ∧ (nine M)[i]? = some q.2 := by
  simp only [en9, nine, List.zip_cons_cons, List.zip_nil_right, List.mem_cons, List.not_mem_nil, or_false] at h
  rcases h with rfl | rfl | rfl | rfl | rfl | rfl | rfl | rfl | rfl
  · exact ⟨0, by decide, rfl, rfl⟩
  · exact ⟨1, by decide, rfl, rfl⟩
  · exact ⟨2, by decide, rfl, rfl⟩
  · exact ⟨3, by decide, rfl, rfl⟩
  · exact ⟨4, by decide, rfl, rfl⟩
  · exact ⟨5, by decide, rfl, rfl⟩
  · exact ⟨6, by decide, rfl, rfl⟩
  · exact ⟨7, by decide, rfl, rfl⟩
  · exact ⟨8, by decide, rfl, rfl⟩
theorem nine_ix {M : Ch} {i : Nat} {n : Int} (h : (nine M)[i]? = some n) : ixD S (.tup ((nine M).map D.int)) (.int i) = some (.int n) := by
  show L2.atI ((nine M).map D.int) i = _
  rw [atI_at, List.getElem?_map, h]; rfl
theorem nine_bd {M : Ch} (h : ChOk M) {n : Int} (hn : n ∈ nine M) : Bd n 20 := by
  simp only [nine, List.mem_cons, List.not_mem_nil, or_false] at hn
  rcases hn with rfl | rfl | rfl | rfl | rfl | rfl | rfl | rfl | rfl
  · exact h.b1
  · exact h.b2
  · exact h.b3
  · exact h.b4
  · exact h.b5
  · exact h.b6
  · exact h.b7
  · exact h.b8
  · exact h.b9
theorem en9_ne {M : Ch} (h : ChOk M) : ∃ q rest, (en9 M).filter (fun q => decide (q.2 ≠ 0)) = q :: rest := by
  cases e : (en9 M).filter (fun q => decide (q.2 ≠ 0)) with
  | cons q rest => exact ⟨q, rest, rfl⟩
  | nil =>
    exfalso
    rw [List.filter_eq_nil_iff] at e
    refine h.sees.1 ?_
    simp [en9, nine] at e
    simp [det, e]
end K31

namespace K31
open PySem PySem.Spec PyProof.Rows L2 Mi
variable {S T : Sto} {N : Nat}
abbrev pD (q : Int × Int) : D := .tup [.int q.1, .int q.2]
theorem are_eq {M N : Ch} (h : ChOk M) (k : ChOk N) : m__law_are_alike [chD M, chD N] S = .ok (.bl (alikeB M N)) S := ens_eq (by
  have hM : [D.int M.1.1, D.int M.1.2.1, D.int M.1.2.2, D.int M.2.1.1, D.int M.2.1.2.1, D.int M.2.1.2.2, D.int M.2.2.1, D.int M.2.2.2.1, D.int M.2.2.2.2] = (nine M).map D.int := rfl
  have hN : [D.int N.1.1, D.int N.1.2.1, D.int N.1.2.2, D.int N.2.1.1, D.int N.2.1.2.1, D.int N.2.1.2.2, D.int N.2.2.1, D.int N.2.2.2.1, D.int N.2.2.2.2] = (nine N).map D.int := rfl
  simp [m__law_are_alike, b__law_are_alike, startE]
  rw [hM, hN]
  have en : enumD ((nine M).map D.int) = (en9 M).map pD := rfl
  have zn : zipD ((nine M).map D.int) ((nine N).map D.int) = ((nine M).zip (nine N)).map pD := rfl
  rw [en, zn]
  refine lc_map (en9 M) pD (fun q => .int q.1) (fun q => decide (q.2 ≠ 0)) (by simp [en9, nine]) (by trivial) (fun q hq => by simp [pD, wipeE]) ?_
  obtain ⟨q, rest, hf⟩ := en9_ne h
  rw [hf]
  have hq : q ∈ (en9 M).filter (fun q => decide (q.2 ≠ 0)) := by rw [hf]; exact List.mem_cons_self
  obtain ⟨hq1, hq2⟩ := List.mem_filter.1 hq
  obtain ⟨i, hi, e1, e2⟩ := en9_mem hq1
  obtain ⟨f, ef⟩ : ∃ f, (nine N)[i]? = some f := ⟨(nine N)[i]'(by simpa [nine] using hi), List.getElem?_eq_getElem _⟩
  obtain ⟨qi, n⟩ := q
  simp only at e1 e2 hq2
  subst e1
  have hn : n ≠ 0 := by simpa using hq2
  have bn : Bd n 20 := nine_bd h (List.mem_of_getElem? e2)
  have bf : Bd f 20 := nine_bd k (List.mem_of_getElem? ef)
  have x1 := fun S => nine_ix (S := S) e2
  have x2 := fun S => nine_ix (S := S) ef
  have a0 : L2.atI (D.int (i : Int) :: rest.map fun q => D.int q.1) 0 = some (.int i) := by rw [show (0 : Int) = ((0 : Nat) : Int) from rfl, atI_at]; rfl
  simp [a0, x1, x2]
  have al := alike_at (M := M) (N := N) e2 ef hn
  refine ⟨fun z => ?_, fun z => ?_⟩
  · cases b : alikeB M N with
    | false => rfl
    | true => have := (al.1 (alikeB_iff.1 b)).1; omega
  · refine lc_map ((nine M).zip (nine N)) pD (fun _ => .int 1) (fun q => decide (q.1 * f ≠ q.2 * n)) (by simp [nine]) (by trivial) (fun q hq => ?_) ?_
    · obtain ⟨q1, q2⟩ := List.of_mem_zip (show (q.1, q.2) ∈ _ from hq)
      have b1 : Bd q.1 20 := nine_bd h q1
      have b2 : Bd q.2 20 := nine_bd k q2
      simp [pD, wipeE, x1, x2]
    · simp
      rw [Bool.eq_iff_iff, alikeB_iff, al]
      simp [z])
end K31

namespace K31
open PySem PySem.Spec PyProof.Rows L2 Mi
variable {S T : Sto} {N : Nat}
/-- numbers of at most 2^40 -/
def Big (M : Ch) : Prop := ∀ n ∈ nine M, Bd n 40
theorem ldet_eq {M : Ch} (h : Big M) : m__law_det [chD M] S = .ok (.int (det M)) S := ens_eq (by
  obtain ⟨⟨a, b, c⟩, ⟨d, e, f⟩, ⟨g, h', i⟩⟩ := M
  have b1 : Bd a 40 := h _ (by simp [nine])
  have b2 : Bd b 40 := h _ (by simp [nine])
  have b3 : Bd c 40 := h _ (by simp [nine])
  have b4 : Bd d 40 := h _ (by simp [nine])
  have b5 : Bd e 40 := h _ (by simp [nine])
  have b6 : Bd f 40 := h _ (by simp [nine])
  have b7 : Bd g 40 := h _ (by simp [nine])
  have b8 : Bd h' 40 := h _ (by simp [nine])
  have b9 : Bd i 40 := h _ (by simp [nine])
  simp [m__law_det, b__law_det, startE, det])
theorem lisint_eq {i : Int} : m__law_is_int [.int i] S = .ok (.bl true) S := ens_eq (by
  simp [m__law_is_int, b__law_is_int, startE, isiD, D.tyn, askTys, isiB])
theorem lchart_eq {M : Ch} (h : Big M) : ∃ b, (∀ S, m__law_is_chart [chD M] S = .ok (.bl b) S) ∧ (b = true → Sees M) := by
  have e1 := fun S => ldet_eq (S := S) h
  have e2 : ∀ (i : Int) S, m__law_is_int [.int i] S = .ok (.bl true) S := fun i S => lisint_eq
  have c2 : ∀ a b c : Int, Mi.cutD [D.int a, .int b, .int c] none (some 2) = [.int a, .int b] := fun a b c => cut_take 2
  refine ⟨decide (det M ≠ 0 ∧ (¬ (M.2.2.1 = 0 ∧ M.2.2.2.1 = 0) ∨ 0 < M.2.2.2.2)), fun S => ens_eq ?_, fun q => ?_⟩
  · simp [m__law_is_chart, b__law_is_chart, startE, isiD, D.tyn, askTys, isiB, EnsS_for_cons, EnsS_for_nil, Ens_lc_cons, Ens_lc_nil, wipeE, Ens_is (e1 _), Ens_is (e2 _ _), c2, ne_t2]
    by_cases z : det M = 0
    · simp [z]
    · simp [z]
      by_cases z1 : M.2.2.1 = 0 <;> by_cases z2 : M.2.2.2.1 = 0 <;> simp [z1, z2]
  · simp at q
    exact ⟨q.1, by omega⟩
end K31

namespace K31
open PySem PySem.Spec PyProof.Rows L2 Mi
variable {S T : Sto} {N : Nat}
theorem tup_lst {l : List D} : tupleD S [.lst l] = some (.tup l) := by simp [tupleD]
theorem scaled_eq {M : Ch} {k : Int} [bk : Bd k 64] (h : Big M) : m__law_scaled [chD M, .int k] S = .ok (chD (scC k M)) S := ens_eq (by
  obtain ⟨⟨a, b, c⟩, ⟨d, e, f⟩, ⟨g, h', i⟩⟩ := M
  have b1 : Bd a 40 := h _ (by simp [nine])
  have b2 : Bd b 40 := h _ (by simp [nine])
  have b3 : Bd c 40 := h _ (by simp [nine])
  have b4 : Bd d 40 := h _ (by simp [nine])
  have b5 : Bd e 40 := h _ (by simp [nine])
  have b6 : Bd f 40 := h _ (by simp [nine])
  have b7 : Bd g 40 := h _ (by simp [nine])
  have b8 : Bd h' 40 := h _ (by simp [nine])
  have b9 : Bd i 40 := h _ (by simp [nine])
  simp [m__law_scaled, b__law_scaled, startE, Ens_lc_cons, Ens_lc_nil, wipeE, tup_lst, scC, sc, Int.mul_comm])
end K31

namespace K31
open PySem PySem.Spec PyProof.Rows L2 Mi
variable {S T : Sto} {N : Nat}
theorem max_nine (M : Ch) : ∃ m, (∀ S, max1D S [.lst [.int (M.1.1.natAbs : Int), .int (M.1.2.1.natAbs : Int), .int (M.1.2.2.natAbs : Int), .int (M.2.1.1.natAbs : Int), .int (M.2.1.2.1.natAbs : Int), .int (M.2.1.2.2.natAbs : Int), .int (M.2.2.1.natAbs : Int), .int (M.2.2.2.1.natAbs : Int), .int (M.2.2.2.2.natAbs : Int)]] = some (.int m)) ∧ ∀ n ∈ nine M, (n.natAbs : Int) ≤ m := by
  cases hm : ((nine M).map fun n => (n.natAbs : Int)).max? with
  | none =>
    rw [List.max?_eq_none_iff] at hm
    simp [nine] at hm
  | some m =>
    refine ⟨m, fun S => ?_, fun n hn => ?_⟩
    · have e : max1D S [.lst (((nine M).map fun n => (n.natAbs : Int)).map D.int)] = some (.int m) := by
        have f : ∀ l : List Int, intsD (l.map D.int) = some l := by
          intro l
          induction l with
          | nil => rfl
          | cons a l ih => simp [intsD, ih]
        simp only [max1D, lstD_lst, Option.bind_some, f, hm, Option.map_some]
      exact e
    · exact (List.max?_eq_some_iff.mp hm).2 _ (List.mem_map.mpr ⟨n, hn, rfl⟩)
theorem small_ok {M : Ch} : ∃ b, (∀ S, m__law_are_small [chD M, .int 1000000] S = .ok (.bl b) S) ∧ (b = true → ∀ n ∈ nine M, n.natAbs ≤ 1000000) := by
  obtain ⟨m, e, hm⟩ := max_nine M
  refine ⟨decide (m ≤ 1000000), fun S => ens_eq ?_, fun q n hn => ?_⟩
  · simp [m__law_are_small, b__law_are_small, startE, Ens_lc_cons, Ens_lc_nil, wipeE, abs_if, e]
  · have := hm n hn
    simp at q
    omega
end K31

namespace K31
open PySem PySem.Spec PyProof.Rows L2 Mi
/-! ### what is drawn -/
section
variable {S T : Sto} {N : Nat}
theorem pickS_ok {d : D} {l : List D} (h : DkP N T S) (hN : N ≤ 1000000000) (hl : l ≠ []) (hlen : l.length ≤ 1000)
    (hd : ∀ M S', DkP M T S' → lenD S' [d] = some (.int l.length) ∧ ∀ i, ixD S' d (.int i) = L2.atI l i) :
    Ens (m__law_pick [.loc 1, d] S) fun a S' => a ∈ l ∧ DkP (N + 1) T S' := by
  have h0 : 0 < l.length := List.length_pos_iff.mpr hl
  have b : Bd (l.length : Int) 64 := bd_lt (by omega) (by omega)
  simp [m__law_pick, b__law_pick, startE, (hd N S h).1]
  refine (draw_ok h hN (by omega) (Bd.up b (by decide))).mono ?_
  rintro _ S1 ⟨v, ha, hv0, hv1, h1⟩
  subst ha
  obtain ⟨e, e1, e2⟩ := atI_nat (l := l) hv0 hv1
  rw [(hd _ S1 h1).2, e1]
  exact ⟨List.mem_of_getElem? e2, h1⟩
theorem pickL_ok {l : List D} (h : DkP N T S) (hN : N ≤ 1000000000) (hl : l ≠ []) (hlen : l.length ≤ 1000) : Ens (m__law_pick [.loc 1, .lst l] S) fun a S' => a ∈ l ∧ DkP (N + 1) T S' :=
  pickS_ok h hN hl hlen fun _ _ _ => ⟨rfl, fun _ => rfl⟩
theorem pickK_ok {l : List D} {k : Nat} (h : DkP N T S) (hk : T[k]? = some (.lst l)) (hN : N ≤ 1000000000) (hl : l ≠ []) (hlen : l.length ≤ 1000) : Ens (m__law_pick [.loc 1, .loc (k + 2)] S) fun a S' => a ∈ l ∧ DkP (N + 1) T S' :=
  pickS_ok h hN hl hlen fun _ _ h => ⟨lenD_loc (dk_at h hk), fun _ => ixD_loc (dk_at h hk)⟩
theorem dr {many : Int} (h : DkP N T S) (hN : N ≤ 1000000000) (h1 : 1 ≤ many) (h2 : many ≤ 2000000000000000) :
    Ens (m__law_draw [.loc 1, .int many] S) fun a S' => ∃ v, a = .int v ∧ 0 ≤ v ∧ v < many ∧ DkP (N + 1) T S' :=
  draw_ok h hN h1 (Bd.up (bd_lt (n := 64) (by omega) (by omega)) (by decide))
theorem shuf_ok {l : List D} (h : DkP N T S) (hN : N + 2000 ≤ 1000000000) (hl : l.length ≤ 1000) (lo : ∀ d ∈ l, ∀ n, d.lo n) :
    Ens (m__law_shuffled [.loc 1, .lst l] S) fun a S' => ∃ l', a = .lst l' ∧ l'.Perm l ∧ DkP (N + l.length) T S' := by
  unfold m__law_shuffled
  refine ens_gcF' ?_
  have hsl := dk_len h
  have d1 := dk_pushE (E := []) (o := .lst l) (by simpa using h)
  have d2 := dk_pushE (o := .lst []) d1
  have hb : -1000000000 ≤ (l.length : Int) ∧ (l.length : Int) ≤ 1000000000 := by omega
  simp [b__law_shuffled, startE, hb, hsl]
  refine for_inv (fun k env S1 => ∃ (lg fg : List D) (x : Option D), env = [some (.loc 1), some (.lst l), some (.loc (T.length + 2)), some (.loc (T.length + 1 + 2)), x] ∧ (lg ++ fg).Perm l ∧ lg.length + k = l.length ∧ DkP (N + k) (T ++ [.lst lg, .lst fg]) S1) _ 0 _ _ ⟨l, [], none, by simp, by simp, rfl, by simpa using d2⟩ (fun _ _ _ _ _ _ => trivial) (fun i d' env S1 _ hd' hi => ?_) (fun env S1 hi => ?_)
  · obtain ⟨lg, fg, x, e, hp, hk, h1⟩ := hi
    obtain ⟨hi9, ed⟩ := rng_get hd'
    simp at ed hi9
    subst e ed
    have e1 := dk_atE h1 (k := 0) (o := .lst lg) rfl
    have e2 := dk_atE h1 (k := 1) (o := .lst fg) rfl
    have hpl := hp.length_eq
    rw [List.length_append] at hpl
    rw [Nat.add_zero] at e1
    simp [isT_loc e1, isT_loc e2, lenD_loc e1]
    refine (dr h1 (by omega) (by omega) (by omega)).mono ?_
    rintro _ S3 ⟨v, rfl, hv0, hv1, h3⟩
    obtain ⟨w, rfl⟩ : ∃ w : Nat, v = w := ⟨v.toNat, by omega⟩
    have hw : w < lg.length := by omega
    have e3 := dk_atE h3 (k := 0) (o := .lst lg) rfl
    rw [Nat.add_zero] at e3
    have h4 := dk_setE h3 (k := 0) (o := .lst (lg.eraseIdx w))
    rw [Nat.add_zero] at h4
    have e5 := dk_atE h4 (k := 1) (o := .lst fg) rfl
    have h6 := dk_setE h4 (k := 1) (o := .lst (fg ++ [lg[w]]))
    simp [popI_ok e3 (List.getElem?_eq_getElem hw) (by omega), app_loc e5 (by omega)]
    refine ⟨lg.eraseIdx w, fg ++ [lg[w]], ?_, by rw [List.length_eraseIdx, if_pos hw]; omega, ?_⟩
    · refine List.Perm.trans ?_ hp
      have := erase_perm lg w hw
      refine List.Perm.trans ?_ (this.append_right fg)
      rw [← List.append_assoc]
      exact List.perm_append_comm
    · exact h6.up (by omega)
  · obtain ⟨lg, fg, x, e, hp, hk, h1⟩ := hi
    subst e
    rw [rangeD_length] at hk h1
    have : lg = [] := List.length_eq_zero_iff.mp (by omega)
    subst this
    have e2 := dk_atE h1 (k := 1) (o := .lst fg) rfl
    obtain ⟨g1, g2⟩ := dk_gc h h1
    simp at hp
    rw [hsl] at g2
    simp
    refine ⟨fg, e2, g1, los_all fun d hd => lo d (hp.mem_iff.mp hd) _, hp, ?_⟩
    exact g2.up (by omega)
/-! odd values -/
theorem isint_od {d : D} (h : od d = true) : m_is_int [d] S = .ok (.bl (isI d)) S := ens_eq (by
  cases d <;> first | (cases h; done) | simp [m_is_int, b_is_int, startE, od_isi, isiB, tn, askTys, isI, h])
theorem istup_od {d : D} {j : Int} (h : od d = true) : m_is_tuple [d, .int j] S = .ok (.bl (match d with | .tup l => decide ((l.length : Int) = j) | _ => false)) S := ens_eq (by
  cases d <;> first | (cases h; done) | simp [m_is_tuple, b_is_tuple, startE, od_isi, isiB, tn, askTys, h])
theorem frm_od {d : D} {lo : Int} (h : od d = true) : m_is_from [d, .int lo] S = .ok (.bl (frm lo d)) S := ens_eq (by
  cases d with
  | int x => simp [m_is_from, b_is_from, startE, Ens_is (isint_od h), isI, frm]
  | _ => first | (cases h; done) | simp [m_is_from, b_is_from, startE, Ens_is (isint_od h), isI, frm])
theorem lisint_od {d : D} (h : od d = true) : m__law_is_int [d] S = .ok (.bl (isI d)) S := ens_eq (by
  cases d <;> first | (cases h; done) | simp [m__law_is_int, b__law_is_int, startE, od_isi, isiB, tn, askTys, isI, h])
theorem isspot_od {d : D} (h : od d = true) : m_is_spot_value [d] S = .ok (.bl (spB d)) S := ens_eq (by
  cases d with
  | tup l =>
    match l with
    | [a, b, c] =>
      obtain ⟨ho, _⟩ := od_tup.mp h
      have ha := ho a (by simp)
      have hb := ho b (by simp)
      have hc := ho c (by simp)
      simp [m_is_spot_value, b_is_spot_value, startE, Ens_is (istup_od h), Ens_is (isint_od ha), Ens_is (isint_od hb), Ens_is (frm_od hc)]
      cases qa : isI a with
      | false => simp [spB_not (.inl qa)]
      | true =>
        cases qb : isI b with
        | false => simp [spB_not (.inr (.inl qb))]
        | true =>
          obtain ⟨x, rfl⟩ := int_of qa
          obtain ⟨y, rfl⟩ := int_of qb
          cases c with
          | int w =>
            by_cases h1 : 1 ≤ w
            · simp [frm, h1, Ens_is cp_eq, spB, g3]
            · simp [frm, h1, spB]
          | _ => simp [frm, spB]
    | [] => simp [m_is_spot_value, b_is_spot_value, startE, Ens_is (istup_od h), spB]
    | [_] => simp [m_is_spot_value, b_is_spot_value, startE, Ens_is (istup_od h), spB]
    | [_, _] => simp [m_is_spot_value, b_is_spot_value, startE, Ens_is (istup_od h), spB]
    | _ :: _ :: _ :: _ :: r =>
      have : ¬ ((r.length : Int) + 1 + 1 + 1 + 1 = 3) := by omega
      simp [m_is_spot_value, b_is_spot_value, startE, Ens_is (istup_od h), spB, this]
  | _ => first | (cases h; done) | simp [m_is_spot_value, b_is_spot_value, startE, Ens_is (istup_od h), spB])
theorem lisspot_od {d : D} (h : od d = true) : m__law_is_spot [d] S = .ok (.bl (spB d)) S := ens_eq (by
  cases d with
  | tup l =>
    match l with
    | [a, b, c] =>
      obtain ⟨ho, _⟩ := od_tup.mp h
      have ha := ho a (by simp)
      have hb := ho b (by simp)
      have hc := ho c (by simp)
      simp [m__law_is_spot, b__law_is_spot, startE, isiD, D.tyn, askTys, isiB, Ens_lc_cons, Ens_lc_nil, wipeE, Ens_is (lisint_od ha), Ens_is (lisint_od hb), Ens_is (lisint_od hc)]
      cases qa : isI a <;> cases qb : isI b <;> cases qc : isI c <;> simp [Ens_lc_cons, Ens_lc_nil, Ens_is (lisint_od ha), Ens_is (lisint_od hb), Ens_is (lisint_od hc), qa, qb, qc, spB_not]
      obtain ⟨x, rfl⟩ := int_of qa
      obtain ⟨y, rfl⟩ := int_of qb
      obtain ⟨w, rfl⟩ := int_of qc
      by_cases h1 : 1 ≤ w
      · simp [h1, Ens_is lgcd_eq, spB, g3]
      · simp [h1, spB]
    | [] => simp [m__law_is_spot, b__law_is_spot, startE, isiD, D.tyn, askTys, isiB, spB]
    | [_] => simp [m__law_is_spot, b__law_is_spot, startE, isiD, D.tyn, askTys, isiB, spB]
    | [_, _] => simp [m__law_is_spot, b__law_is_spot, startE, isiD, D.tyn, askTys, isiB, spB]
    | _ :: _ :: _ :: _ :: r =>
      have : ¬ ((r.length : Int) + 1 + 1 + 1 + 1 = 3) := by omega
      simp [m__law_is_spot, b__law_is_spot, startE, isiD, D.tyn, askTys, isiB, spB, this]
  | _ => first | (cases h; done) | simp [m__law_is_spot, b__law_is_spot, startE, isiD, D.tyn, askTys, isiB, spB])
end
end K31

namespace K31
open PySem PySem.Spec PyProof.Rows L2 Mi
section
variable {S T : Sto} {N : Nat}
/-! ### a drawn chart -/
def Wt (m : Int) (M : Ch) : Prop := ∀ n ∈ nine M, -m ≤ n ∧ n ≤ m
def WtL (m : Int) (R : List V3) : Prop := ∀ p ∈ R, ∀ n ∈ [p.1, p.2.1, p.2.2], -m ≤ n ∧ n ≤ m
def WtR (m : Int) (p : V3) : Prop := ∀ n ∈ [p.1, p.2.1, p.2.2], -m ≤ n ∧ n ≤ m
abbrev rD (p : V3) : D := .lst [.int p.1, .int p.2.1, .int p.2.2]
theorem wt_rows {m : Int} {p q r : V3} (h1 : WtR m p) (h2 : WtR m q) (h3 : WtR m r) : Wt m (p, q, r) := by
  intro n hn
  simp only [nine, List.mem_cons, List.not_mem_nil, or_false] at hn
  rcases hn with rfl | rfl | rfl | rfl | rfl | rfl | rfl | rfl | rfl
  · exact h1 _ (by simp)
  · exact h1 _ (by simp)
  · exact h1 _ (by simp)
  · exact h2 _ (by simp)
  · exact h2 _ (by simp)
  · exact h2 _ (by simp)
  · exact h3 _ (by simp)
  · exact h3 _ (by simp)
  · exact h3 _ (by simp)
theorem wtr {m a b c : Int} (h1 : -m ≤ a ∧ a ≤ m) (h2 : -m ≤ b ∧ b ≤ m) (h3 : -m ≤ c ∧ c ≤ m) : WtR m (a, b, c) := by
  intro n hn
  simp only [List.mem_cons, List.not_mem_nil, or_false] at hn
  rcases hn with rfl | rfl | rfl <;> assumption
theorem Wt.big {m : Int} {M : Ch} (h : Wt m M) (hm : m ≤ 1000000000) : Big M := fun n hn => by
  have := h n hn
  exact bd_lt (by omega) (by omega)
theorem Wt.ok {M : Ch} (h : Wt 1000000 M) (hs : Sees M) : ChOk M := by
  have k : ∀ n ∈ nine M, Bd n 20 := fun n hn => by
    have := h n hn
    exact bd_lt (by omega) (by omega)
  exact ⟨k _ (by simp [nine]), k _ (by simp [nine]), k _ (by simp [nine]), k _ (by simp [nine]), k _ (by simp [nine]), k _ (by simp [nine]), k _ (by simp [nine]), k _ (by simp [nine]), k _ (by simp [nine]), hs⟩
theorem set_loc {k j : Nat} {l : List D} {d : D} (h : S[k]? = some (.lst l)) (hj : j < l.length) : setD S (.loc k) (.int (j : Int)) d = some (S.set k (.lst (l.set j d))) := by
  have : (j : Int) < l.length := by omega
  simp [setD, h, ixN, this]
noncomputable abbrev chRow : TM := (mLc (iRng1 (aCons (mC (.int 3)) aNil)) (gN 5) bYes (mIf (bVal (mOp gtD (mCall 2 m__law_draw (aCons (mVar 0) (aCons (mC (.int 3)) aNil))) (mC (.int 0)))) (mCall 2 m__law_number (aCons (mVar 0) (aCons (mVar 1) aNil))) (mC (.int 0))) [5])
def IsR (m : Int) (d : D) : Prop := ∃ p, d = rD p ∧ WtR m p
theorem row_ok {most : Int} {x : List (Option D)} (h : DkP N T S) (hN : N + 20 ≤ 1000000000) (h1 : 1 ≤ most) (h2 : most ≤ 1000000) :
    Ens (chRow (some (.loc 1) :: some (.int most) :: x) S) fun a S' => IsR most a ∧ DkP (N + 15) T S' := by
  simp [chRow, wipeE]
  have el : ∀ (N : Nat) (S : Sto) (y : List (Option D)), DkP N T S → N + 5 ≤ 1000000000 → Ens (mIf (bVal (mOp gtD (mCall 2 m__law_draw (aCons (mVar 0) (aCons (mC (.int 3)) aNil))) (mC (.int 0)))) (mCall 2 m__law_number (aCons (mVar 0) (aCons (mVar 1) aNil))) (mC (.int 0)) (some (.loc 1) :: some (.int most) :: y) S) fun a S' => (∃ i : Int, a = .int i ∧ -most ≤ i ∧ i ≤ most) ∧ DkP (N + 5) T S' := by
    intro N S y h hN
    simp
    refine (dr h (by omega) (by decide) (by decide)).mono ?_
    rintro _ S1 ⟨v, rfl, v0, v1, h3⟩
    simp
    refine ⟨fun _ => ?_, fun _ => ⟨by omega, h3.up (by omega)⟩⟩
    refine (number_ok h3 (by omega) h1 (by omega)).mono ?_
    rintro _ S2 ⟨i, rfl, i0, i1, h4⟩
    exact ⟨⟨i, rfl, i0, i1⟩, h4.up (by omega)⟩
  refine lc_inv (fun k acc S1 => ∃ l : List Int, acc = l.map D.int ∧ l.length = k ∧ (∀ i ∈ l, -most ≤ i ∧ i ≤ most) ∧ DkP (N + 5 * k) T S1) _ 0 _ _ ⟨[], rfl, rfl, by simp, by simpa using h⟩ (fun _ _ _ _ _ _ => trivial) (fun i d' acc S1 _ hd' hi => ?_) (fun acc S1 hi => ?_)
  · obtain ⟨l, rfl, hl, hb, h3⟩ := hi
    have hi3 : i < 3 := by
      have := (List.getElem?_eq_some_iff.mp hd').1
      rw [rangeD_length] at this
      simpa using this
    simp only [gN_ok, Ens_ok, List.set_cons_succ, bYes, reduceCtorEq, if_false, true_implies, false_implies, and_true]
    refine (el (N + 5 * i) S1 _ h3 (by omega)).mono ?_
    rintro a S2 ⟨⟨j, rfl, j0, j1⟩, h4⟩
    refine ⟨by simp; omega, l ++ [j], by simp, by simp [hl], fun q hq => ?_, h4.up (by omega)⟩
    rcases List.mem_append.mp hq with z | z
    · exact hb q z
    · have : q = j := by simpa using z
      rw [this]; exact ⟨j0, j1⟩
  · obtain ⟨l, rfl, hl, hb, h3⟩ := hi
    rw [rangeD_length] at hl
    match l, hl with
    | [a, b, c], _ =>
    refine ⟨⟨(a, b, c), rfl, hb⟩, ?_⟩
    rw [rangeD_length] at h3
    exact h3.up (by simp)
def RwP (most way : Int) (M : Nat) (T : Sto) (r : RS) : Prop := ∃ (p q s : V3) (S : Sto) (x : List (Option D)), r = .nx ([some (.loc 1), some (.int most), some (.int way), some (.loc (T.length + 2))] ++ x) S ∧ x.length = 7 ∧ WtR most p ∧ WtR most q ∧ WtR most s ∧ DkP M (T ++ [.lst [rD p, rD q, rD s]]) S
def IsCh (m : Int) (a : D) : Prop := ∃ M, a = chD M ∧ Wt m M ∧ Sees M
theorem chart_made {most : Int} (h : DkP N T S) (hN : N + 100 ≤ 1000000000) (h1 : 1 ≤ most) (h2 : most ≤ 1000000) :
    Ens (m__law_chart [.loc 1, .int most] S) fun a S' => IsCh most a ∧ DkP (N + 100) T S' := by
  unfold m__law_chart
  refine ens_gc' ?_
  have hsl := dk_len h
  simp [b__law_chart, startE, -Ens_mIf, -EnsS_sIf, -Ens_mLc]
  refine (dr h (by omega) (by decide) (by decide)).mono ?_
  rintro _ S1 ⟨way, rfl, w0, w1, h3⟩
  have hsl1 := dk_len h3
  have d1 := dk_pushE (E := []) (o := .lst []) (by simpa using h3)
  simp [hsl1, -Ens_mIf, -EnsS_sIf, -Ens_mLc]
  refine for_inv (fun k env S1 => ∃ (R : List V3) (x : List (Option D)), env = [some (.loc 1), some (.int most), some (.int way), some (.loc (T.length + 2))] ++ x ∧ x.length = 7 ∧ R.length = k ∧ WtL most R ∧ DkP (N + 1 + 15 * k) (T ++ [.lst (R.map rD)]) S1) _ 0 _ _ ⟨[], _, rfl, rfl, rfl, (fun p hp => by simp at hp), by simpa using d1⟩ (fun _ _ _ _ _ _ => trivial) (fun i d' env S1 _ hd' hi => ?_) (fun env S1 hi => ?_)
  · obtain ⟨R, x, e, hx, hR, hb, h4⟩ := hi
    have hi3 : i < 3 := by
      have := (List.getElem?_eq_some_iff.mp hd').1
      rw [rangeD_length] at this
      simpa using this
    subst e
    match x, hx with
    | [x4, x5, x6, x7, x8, x9, x10], _ =>
    have e0 := dk_atE h4 (k := 0) (o := .lst (R.map rD)) rfl
    rw [Nat.add_zero] at e0
    simp [isT_loc e0, -Ens_mLc, -Ens_mIf]
    refine (row_ok h4 (by omega) h1 h2).mono ?_
    rintro _ S2 ⟨⟨p, rfl, hp⟩, h5⟩
    have e1 := dk_atE h5 (k := 0) (o := .lst (R.map rD)) rfl
    rw [Nat.add_zero] at e1
    have h6 := dk_setE h5 (k := 0) (o := .lst (R.map rD ++ [rD p]))
    rw [Nat.add_zero] at h6
    simp [app_loc e1 (by simp; omega)]
    refine ⟨R ++ [p], by simp [hR], fun q hq => ?_, ?_⟩
    · rcases List.mem_append.mp hq with z | z
      · exact hb q z
      · have : q = p := by simpa using z
        rw [this]; exact hp
    · have : N + 1 + 15 * (i + 1) = N + 1 + 15 * i + 15 := by omega
      rw [this]
      simpa using h6
  · obtain ⟨R, x, e, hx, hR, hb, h4⟩ := hi
    rw [Nat.zero_add, rangeD_length] at hR h4
    match R, hR with
    | [p, q, s], _ =>
    subst e
    have h4' : DkP (N + 46) (T ++ [.lst [rD p, rD q, rD s]]) S1 := h4.up (by simp)
    have hp := hb p (by simp)
    have hq := hb q (by simp)
    have hs := hb s (by simp)
    clear h4 hb
    rw [then_nx, EnsS_sSeq]
    refine EnsS.mono (P := RwP most way (N + 50) T) ?_ ?_
    · match x, hx with
      | [x4, x5, x6, x7, x8, x9, x10], _ =>
      simp
      refine ⟨fun hw => ?_, fun hw => ⟨p, q, s, S1, _, rfl, rfl, hp, hq, hs, h4'.up (by omega)⟩⟩
      refine (far_ok h4' (by omega) (by omega)).mono ?_
      rintro _ S2 ⟨v, rfl, v0, v1, h5⟩
      have e1 := dk_atE h5 (k := 0) (o := .lst [rD p, rD q, rD s]) rfl
      rw [Nat.add_zero] at e1
      have h6 := dk_setE h5 (k := 0) (o := .lst [rD p, rD q, rD (0, 0, 1 + v)])
      rw [Nat.add_zero] at h6
      have st := fun d => set_loc (j := 2) (d := d) e1 (by simp)
      simp at st
      simp [st]
      exact ⟨p, q, (0, 0, 1 + v), _, _, rfl, rfl, hp, hq, wtr (by omega) (by omega) (by omega), by simpa using h6.up (M := N + 50) (by omega)⟩
    rintro _ ⟨p, q, s, S2, x, rfl, hx, hp, hq, hs, h5⟩
    match x, hx with
    | [x4, x5, x6, x7, x8, x9, x10], _ =>
    rw [List.cons_append]
    rw [then_nx, EnsS_sSeq]
    refine EnsS.mono (P := RwP most way (N + 52) T) ?_ ?_
    · simp
      refine ⟨fun hw => ?_, fun hw => ⟨p, q, s, S2, _, rfl, rfl, hp, hq, hs, h5.up (by omega)⟩⟩
      refine (pick_ok h5 (by omega) (by simp) (by simp)).mono ?_
      rintro a S3 ⟨ha, h6⟩
      obtain ⟨u, rfl, u0⟩ : ∃ u, a = .int u ∧ -most ≤ u ∧ u ≤ most := by
        simp at ha
        rcases ha with rfl | rfl | rfl <;> exact ⟨_, rfl, by omega, by omega⟩
      refine (pick_ok h6 (by omega) (by simp) (by simp)).mono ?_
      rintro a S4 ⟨ha, h7⟩
      obtain ⟨v, rfl, v0⟩ : ∃ v, a = .int v ∧ -most ≤ v ∧ v ≤ most := by
        simp at ha
        rcases ha with rfl | rfl | rfl <;> exact ⟨_, rfl, by omega, by omega⟩
      have e1 := dk_atE h7 (k := 0) (o := .lst [rD p, rD q, rD s]) rfl
      rw [Nat.add_zero] at e1
      have h8 := dk_setE h7 (k := 0) (o := .lst [rD (u, 0, 0), rD q, rD s])
      rw [Nat.add_zero] at h8
      have e2 := dk_atE h8 (k := 0) (o := .lst [rD (u, 0, 0), rD q, rD s]) rfl
      rw [Nat.add_zero] at e2
      have h9 : DkP (N + 52) (T ++ [.lst [rD (u, 0, 0), rD (0, v, 0), rD s]]) ((S4.set (T.length + 2) (.lst [rD (u, 0, 0), rD q, rD s])).set (T.length + 2) (.lst [rD (u, 0, 0), rD (0, v, 0), rD s])) := dk_setE h8 (k := 0) (o := .lst [rD (u, 0, 0), rD (0, v, 0), rD s])
      have st : ∀ d, setD S4 (.loc (T.length + 2)) (.int 0) d = some (S4.set (T.length + 2) (.lst [d, rD q, rD s])) := fun d => set_loc (j := 0) e1 (by simp)
      have st2 : ∀ d, setD (S4.set (T.length + 2) (.lst [rD (u, 0, 0), rD q, rD s])) (.loc (T.length + 2)) (.int 1) d = some ((S4.set (T.length + 2) (.lst [rD (u, 0, 0), rD q, rD s])).set (T.length + 2) (.lst [rD (u, 0, 0), d, rD s])) := fun d => set_loc (j := 1) e2 (by simp)
      rw [st _]
      simp only [Mi.R.of_some, Ens_ok]
      rw [st2 _]
      simp only [Mi.R.of_some, Ens_ok]
      exact ⟨(u, 0, 0), (0, v, 0), s, _, _, rfl, rfl, wtr (by omega) (by omega) (by omega), wtr (by omega) (by omega) (by omega), hs, h9⟩
    rintro _ ⟨p, q, s, S3, x, rfl, hx, hp, hq, hs, h6⟩
    match x, hx with
    | [x4, x5, x6, x7, x8, x9, x10], _ =>
    have e1 := dk_atE h6 (k := 0) (o := .lst [rD p, rD q, rD s]) rfl
    rw [Nat.add_zero] at e1
    have W : Wt most (p, q, s) := wt_rows hp hq hs
    obtain ⟨b, eb, hbS⟩ := lchart_eq (W.big (by omega))
    have gd : gdSeq (D.loc (T.length + 2)) [rD p, rD q, rD s] S3 := by rw [gdSeq_loc, seq_loc e1]
    have fin : ∀ (M : Ch) (S5 : Sto), Wt most M → Sees M → DkP (N + 90) (T ++ [.lst [rD p, rD q, rD s]]) S5 → gcOk S S5 ∧ D.lo S.length (chD M) ∧ (IsCh most (chD M) ∧ DkP (N + 100) T (S5.take S.length)) := fun M S5 hW hS h5 => by
      obtain ⟨g1, g2⟩ := dk_gc h h5
      exact ⟨g1, ⟨⟨trivial, trivial, trivial, trivial⟩, ⟨trivial, trivial, trivial, trivial⟩, ⟨trivial, trivial, trivial, trivial⟩, trivial⟩, ⟨M, rfl, hW, hS⟩, g2.up (by omega)⟩
    have tup3 : ∀ (p : V3) S, tupleD S [rD p] = some (vD p) := fun p S => tup_lst
    rw [List.cons_append]
    simp [seq_loc e1, Ens_lc_cons, Ens_lc_nil, wipeE, tup3, gd, Ens_is (eb _)]
    refine ⟨fun hb => fin (p, q, s) S3 W (hbS hb) (h6.up (by omega)), fun _ => ?_⟩
    refine (number_ok h6 (by omega) h1 (by omega)).mono ?_
    rintro _ S4 ⟨a, rfl, a0, a1, h7⟩
    refine (number_ok h7 (by omega) h1 (by omega)).mono ?_
    rintro _ S5 ⟨b', rfl, b0, b1, h8⟩
    refine (number_ok h8 (by omega) h1 (by omega)).mono ?_
    rintro _ S6 ⟨c, rfl, c0, c1, h9⟩
    have h9' := h9.up (M := N + 90) (by omega)
    refine ⟨fun _ => fin ((1, a, b'), (0, c, 1), (0, 1, 0)) S6 (wt_rows (wtr (by omega) (by omega) (by omega)) (wtr (by omega) (by omega) (by omega)) (wtr (by omega) (by omega) (by omega))) ⟨by simp [det], by simp⟩ h9',
      fun _ => ⟨fun _ => fin ((1, a, b'), (0, -1, c), (0, 0, 1)) S6 (wt_rows (wtr (by omega) (by omega) (by omega)) (wtr (by omega) (by omega) (by omega)) (wtr (by omega) (by omega) (by omega))) ⟨by simp [det], by simp⟩ h9',
        fun _ => fin ((1, a, b'), (0, 1, c), (0, 0, 1)) S6 (wt_rows (wtr (by omega) (by omega) (by omega)) (wtr (by omega) (by omega) (by omega)) (wtr (by omega) (by omega) (by omega))) ⟨by simp [det], by simp⟩ h9'⟩⟩
end
end K31

namespace K31
open PySem PySem.Spec PyProof.Rows L2 Mi
section
variable {S T : Sto} {N : Nat}
/-! ### lowest terms of a chart -/
def gcdC (M : Ch) : Int := (nine M).foldl g2 0
theorem fold_dvd : ∀ (l : List Int) (a : Int), l.foldl g2 a ∣ a ∧ ∀ n ∈ l, l.foldl g2 a ∣ n
  | [], a => ⟨Int.dvd_refl a, by simp⟩
  | x :: l, a => by
    obtain ⟨h1, h2⟩ := fold_dvd l (g2 a x)
    simp only [List.foldl_cons]
    refine ⟨Int.dvd_trans h1 (g2_dvd_left ..), fun n hn => ?_⟩
    rcases List.mem_cons.mp hn with rfl | hn
    · exact Int.dvd_trans h1 (g2_dvd_right ..)
    · exact h2 n hn
theorem fold_nonneg : ∀ (l : List Int) (a : Int), 0 ≤ a → 0 ≤ l.foldl g2 a
  | [], a, h => h
  | x :: l, a, h => fold_nonneg l _ (g2_nonneg ..)
theorem gcdC_pos {M : Ch} (h : Sees M) : 0 < gcdC M ∧ ∃ n ∈ nine M, n ≠ 0 ∧ gcdC M ∣ n := by
  have h0 : 0 ≤ gcdC M := fold_nonneg _ _ (Int.le_refl _)
  have hd := (fold_dvd (nine M) 0).2
  have ex : ∃ n ∈ nine M, n ≠ 0 := by
    refine Classical.byContradiction fun z => h.1 ?_
    have z' : ∀ n ∈ nine M, n = 0 := fun n hn => Classical.byContradiction fun q => z ⟨n, hn, q⟩
    simp [nine] at z'
    simp [det, z']
  obtain ⟨n, hn, hz⟩ := ex
  have hdn := hd n hn
  refine ⟨?_, n, hn, hz, hdn⟩
  rcases Int.lt_or_eq_of_le h0 with q | q
  · exact q
  · exfalso
    have e : (nine M).foldl g2 0 = 0 := q.symm
    rw [e] at hdn
    exact hz (Int.zero_dvd.mp hdn)
def dvR (p : V3) (g : Int) : V3 := (p.1 / g, p.2.1 / g, p.2.2 / g)
def lowC (M : Ch) : Ch := (dvR M.1 (gcdC M), dvR M.2.1 (gcdC M), dvR M.2.2 (gcdC M))
theorem div_wt {m n g : Int} (hg : 0 < g) (h : -m ≤ n ∧ n ≤ m) : -m ≤ n / g ∧ n / g ≤ m := by
  have h1 : (n / g).natAbs ≤ n.natAbs := Int.natAbs_ediv_le_natAbs n g
  omega
theorem lowC_wt {m : Int} {M : Ch} (h : Wt m M) (hs : Sees M) : Wt m (lowC M) := by
  have hg := (gcdC_pos hs).1
  have k : ∀ n ∈ nine M, -m ≤ n / gcdC M ∧ n / gcdC M ≤ m := fun n hn => div_wt hg (h n hn)
  simp only [nine, List.forall_mem_cons] at k
  obtain ⟨k1, k2, k3, k4, k5, k6, k7, k8, k9, _⟩ := k
  exact wt_rows (wtr k1 k2 k3) (wtr k4 k5 k6) (wtr k7 k8 k9)
theorem lowest_eq {M : Ch} (h : ChOk M) : m__law_lowest [chD M] S = .ok (chD (lowC M)) S := ens_eq (by
  obtain ⟨hg, n, hn, hz, hdn⟩ := gcdC_pos h.sees
  have bn := nine_bd h hn
  have hle : gcdC M ≤ (n.natAbs : Int) := Int.le_of_dvd (by omega) (Int.dvd_natAbs.mpr hdn)
  have bg : Bd (gcdC M) 21 := by
    have h1 := bn.lo
    have h2 := bn.hi
    exact bd_lt (by omega) (by omega)
  have hg0 : gcdC M ≠ 0 := by omega
  have e : ∀ x y S, m__law_gcd [.int x, .int y] S = .ok (.int (g2 x y)) S := fun x y S => lgcd_eq
  have hG : g2 (g2 (g2 (g2 (g2 (g2 (g2 (g2 (g2 0 M.1.1) M.1.2.1) M.1.2.2) M.2.1.1) M.2.1.2.1) M.2.1.2.2) M.2.2.1) M.2.2.2.1) M.2.2.2.2 = gcdC M := rfl
  simp [m__law_lowest, b__law_lowest, startE, EnsS_for_cons, EnsS_for_nil, Ens_is (e _ _ _), Ens_lc_cons, Ens_lc_nil, wipeE, tup_lst]
  rw [hG]
  simp [fdivD_int, hg0, Int.fdiv_eq_ediv_of_nonneg _ (Int.le_of_lt hg), Ens_lc_cons, Ens_lc_nil, wipeE, tup_lst]
  exact ⟨⟨rfl, rfl, rfl⟩, ⟨rfl, rfl, rfl⟩, rfl, rfl, rfl⟩)
end
end K31

namespace K31
open PySem PySem.Spec PyProof.Rows L2 Mi
section
variable {S T : Sto} {N : Nat}
/-! ### a chart that has something to do with another one -/
def NcP (M : Ch) (way by_ : Int) (N : Nat) (T : Sto) (r : RS) : Prop := ∃ (M' : Ch) (S : Sto) (b d e f g : Option D), r = .nx [some (.loc 1), some (chD M), some (.int way), some (.int by_), b, d, e, f, some (chD M'), g] S ∧ Big M' ∧ ∃ E, DkP N (T ++ E) S
theorem row3 {p : V3} : seqD S (vD p) = some [.int p.1, .int p.2.1, .int p.2.2] := rfl
/-- what one of three rows stands for -/
def RowIs (S : Sto) (d : D) (p : V3) : Prop := tupleD S [d] = some (vD p)
noncomputable def ncFound : SM := (sAsg (mB tupleD (aCons (mLc (iSeq (mVar 6)) (gN 7) bYes (mB tupleD (aCons (mVar 7) aNil)) [7]) aNil)) (gN 8))
theorem found_ok {k : Nat} {d0 d1 d2 : D} {p q s : V3} {x0 x1 x2 x3 x4 x5 x7 x8 x9 : Option D} {P : RS → Prop} (h : S[k]? = some (.lst [d0, d1, d2])) (h0 : RowIs S d0 p) (h1 : RowIs S d1 q) (h2 : RowIs S d2 s)
    (hP : P (.nx [x0, x1, x2, x3, x4, x5, some (.loc k), x7, some (chD (p, q, s)), x9] S)) :
    EnsS (ncFound [x0, x1, x2, x3, x4, x5, some (.loc k), x7, x8, x9] S) P := by
  have gd : gdSeq (D.loc k) [d0, d1, d2] S := by rw [gdSeq_loc, seq_loc h]
  unfold RowIs at h0 h1 h2
  simp [ncFound, seq_loc h, Ens_lc_cons, Ens_lc_nil, wipeE, gd, h0, h1, h2, tup_lst]
  exact hP
theorem three {at' : Int} (h0 : 0 ≤ at') (h1 : at' < 3) : at' = 0 ∨ at' = 1 ∨ at' = 2 := by omega
def Mid (M : Ch) : Prop := ∀ n ∈ nine M, Bd n 24
theorem Mid.big {M : Ch} (h : Mid M) : Big M := fun n hn => (h n hn).up (by decide)
theorem mid_of {M : Ch} (h : ∀ n ∈ nine M, -16000000 ≤ n ∧ n ≤ 16000000) : Mid M := fun n hn => by
  have := h n hn
  exact bd_lt (by omega) (by omega)
theorem mid_rows {p q r : V3} {m : Int} (hm : m ≤ 16000000) (h1 : WtR m p) (h2 : WtR m q) (h3 : WtR m r) : Mid (p, q, r) := mid_of fun n hn => by
  have := wt_rows h1 h2 h3 n hn
  omega
theorem wt_parts {m : Int} {M : Ch} (h : Wt m M) : WtR m M.1 ∧ WtR m M.2.1 ∧ WtR m M.2.2 := by
  refine ⟨fun n hn => h n ?_, fun n hn => h n ?_, fun n hn => h n ?_⟩ <;> simp only [List.mem_cons, List.not_mem_nil, or_false] at hn <;> rcases hn with rfl | rfl | rfl <;> simp [nine]
theorem WtR.up {m m' : Int} {p : V3} (h : WtR m p) (k : m ≤ m') : WtR m' p := fun n hn => by
  have := h n hn
  omega
theorem big_scale {M : Ch} {k : Int} (h : ∀ n ∈ nine M, Bd n 24) (hk : Bd k 4) : Big (scC k M) := fun n hn => by
  have e : nine (scC k M) = (nine M).map fun n => k * n := rfl
  rw [e] at hn
  obtain ⟨m, hm, rfl⟩ := List.mem_map.mp hn
  have := h m hm
  exact (inferInstance : Bd (k * m) (4 + 24)).up (by decide)
theorem wt_mid {M : Ch} (h : Wt 1000000 M) : Mid M := mid_of fun n hn => by
  have := h n hn
  omega
/-- rows at places -/
structure Rw (S : Sto) (A : Nat) (M : Ch) : Prop where
  r0 : S[A]? = some (.lst [D.int M.1.1, D.int M.1.2.1, D.int M.1.2.2])
  r1 : S[A + 1]? = some (.lst [D.int M.2.1.1, D.int M.2.1.2.1, D.int M.2.1.2.2])
  r2 : S[A + 1 + 1]? = some (.lst [D.int M.2.2.1, D.int M.2.2.2.1, D.int M.2.2.2.2])
  r3 : S[A + 1 + 1 + 1]? = some (.lst [D.loc A, D.loc (A + 1), D.loc (A + 1 + 1)])
theorem set_same {k : Nat} {o o' : O} (h : S[k]? = some o') : (S.set k o)[k]? = some o := by
  rw [List.getElem?_set]
  simp [(List.getElem?_eq_some_iff.mp h).1]
theorem set_ne {k j : Nat} {o : O} {x : Option O} (h : j ≠ k) (e : S[j]? = x) : (S.set k o)[j]? = x := by
  rw [List.getElem?_set, if_neg (by omega)]; exact e
def rowN (M : Ch) (i : Int) : V3 := if i = 0 then M.1 else if i = 1 then M.2.1 else M.2.2
def setN (M : Ch) (i : Int) (p : V3) : Ch := if i = 0 then (p, M.2.1, M.2.2) else if i = 1 then (M.1, p, M.2.2) else (M.1, M.2.1, p)
theorem rowN_wt {m : Int} {M : Ch} (h : Wt m M) (i : Int) : WtR m (rowN M i) := by
  obtain ⟨h1, h2, h3⟩ := wt_parts h
  unfold rowN
  split
  · exact h1
  · split
    · exact h2
    · exact h3
theorem setN_wt {m : Int} {M : Ch} {p : V3} (h : Wt m M) (hp : WtR m p) (i : Int) : Wt m (setN M i p) := by
  obtain ⟨h1, h2, h3⟩ := wt_parts h
  unfold setN
  split
  · exact wt_rows hp h2 h3
  · split
    · exact wt_rows h1 hp h3
    · exact wt_rows h1 h2 hp
section
variable {A : Nat} {M : Ch}
theorem rw_loc (F : Rw S A M) {i : Int} (h0 : 0 ≤ i) (h1 : i < 3) : ixD S (.loc (A + 1 + 1 + 1)) (.int i) = some (.loc (A + i.toNat)) ∧ S[A + i.toNat]? = some (.lst [.int (rowN M i).1, .int (rowN M i).2.1, .int (rowN M i).2.2]) := by
  rw [ixD_loc F.r3]
  rcases three h0 h1 with rfl | rfl | rfl
  · exact ⟨by simp, F.r0⟩
  · exact ⟨by simp, F.r1⟩
  · exact ⟨by simp, F.r2⟩
def putN (p : V3) (j v : Int) : V3 := if j = 0 then (v, p.2.1, p.2.2) else if j = 1 then (p.1, v, p.2.2) else (p.1, p.2.1, v)
theorem putN_wt {m : Int} {p : V3} {v : Int} (h : WtR m p) (hv : -m ≤ v ∧ v ≤ m) (j : Int) : WtR m (putN p j v) := by
  have h1 := h p.1 (by simp)
  have h2 := h p.2.1 (by simp)
  have h3 := h p.2.2 (by simp)
  unfold putN
  split
  · exact wtr hv h2 h3
  · split
    · exact wtr h1 hv h3
    · exact wtr h1 h2 hv
theorem rw_put (F : Rw S A M) {i j v : Int} (h0 : 0 ≤ i) (h1 : i < 3) (j0 : 0 ≤ j) (j1 : j < 3) :
    setD S (.loc (A + i.toNat)) (.int j) (.int v) = some (S.set (A + i.toNat) (.lst [.int (putN (rowN M i) j v).1, .int (putN (rowN M i) j v).2.1, .int (putN (rowN M i) j v).2.2])) ∧
    Rw (S.set (A + i.toNat) (.lst [.int (putN (rowN M i) j v).1, .int (putN (rowN M i) j v).2.1, .int (putN (rowN M i) j v).2.2])) A (setN M i (putN (rowN M i) j v)) := by
  obtain ⟨f0, f1, f2, f3⟩ := F
  have l3 := (List.getElem?_eq_some_iff.mp f3).1
  refine ⟨?_, ?_⟩
  · have e := (rw_loc ⟨f0, f1, f2, f3⟩ h0 h1).2
    rcases three j0 j1 with rfl | rfl | rfl
    · exact set_loc (j := 0) e (by simp)
    · exact set_loc (j := 1) e (by simp)
    · exact set_loc (j := 2) e (by simp)
  · generalize putN (rowN M i) j v = p
    rcases three h0 h1 with rfl | rfl | rfl
    · rw [show setN M 0 p = (p, M.2.1, M.2.2) by simp [setN], show A + (0 : Int).toNat = A by simp]
      exact ⟨set_same f0, set_ne (by omega) f1, set_ne (by omega) f2, set_ne (by omega) f3⟩
    · rw [show setN M 1 p = (M.1, p, M.2.2) by simp [setN], show A + (1 : Int).toNat = A + 1 by simp]
      exact ⟨set_ne (by omega) f0, set_same f1, set_ne (by omega) f2, set_ne (by omega) f3⟩
    · rw [show setN M 2 p = (M.1, M.2.1, p) by simp [setN], show A + (2 : Int).toNat = A + 1 + 1 by simp]
      exact ⟨set_ne (by omega) f0, set_ne (by omega) f1, set_same f2, set_ne (by omega) f3⟩
theorem rw_found {x0 x1 x2 x3 x4 x5 x7 x8 x9 : Option D} {P : RS → Prop} (F : Rw S A M)
    (hP : P (.nx [x0, x1, x2, x3, x4, x5, some (.loc (A + 1 + 1 + 1)), x7, some (chD M), x9] S)) : EnsS (ncFound [x0, x1, x2, x3, x4, x5, some (.loc (A + 1 + 1 + 1)), x7, x8, x9] S) P :=
  found_ok F.r3 (p := M.1) (q := M.2.1) (s := M.2.2) (tup_loc F.r0) (tup_loc F.r1) (tup_loc F.r2) hP
/-- a row replaced by a list -/
theorem rw_new {x0 x1 x2 x3 x4 x5 x7 x8 x9 : Option D} {P : RS → Prop} (F : Rw S A M) {i : Int} {p : V3} (h0 : 0 ≤ i) (h1 : i < 3)
    (hP : ∀ S', S' = S.set (A + 1 + 1 + 1) (.lst ([D.loc A, D.loc (A + 1), D.loc (A + 1 + 1)].set i.toNat (rD p))) → P (.nx [x0, x1, x2, x3, x4, x5, some (.loc (A + 1 + 1 + 1)), x7, some (chD (setN M i p)), x9] S')) :
    ∃ S', setD S (.loc (A + 1 + 1 + 1)) (.int i) (rD p) = some S' ∧ EnsS (ncFound [x0, x1, x2, x3, x4, x5, some (.loc (A + 1 + 1 + 1)), x7, x8, x9] S') P := by
  obtain ⟨f0, f1, f2, f3⟩ := F
  have l3 := (List.getElem?_eq_some_iff.mp f3).1
  refine ⟨S.set (A + 1 + 1 + 1) (.lst ([D.loc A, D.loc (A + 1), D.loc (A + 1 + 1)].set i.toNat (rD p))), ?_, ?_⟩
  · rcases three h0 h1 with rfl | rfl | rfl
    · exact set_loc (j := 0) f3 (by simp)
    · exact set_loc (j := 1) f3 (by simp)
    · exact set_loc (j := 2) f3 (by simp)
  · have g3 : (S.set (A + 1 + 1 + 1) (.lst ([D.loc A, D.loc (A + 1), D.loc (A + 1 + 1)].set i.toNat (rD p))))[A + 1 + 1 + 1]? = some (.lst ([D.loc A, D.loc (A + 1), D.loc (A + 1 + 1)].set i.toNat (rD p))) := by
      rw [List.getElem?_set]; simp [l3]
    have t : ∀ (k : Nat) (q : V3), k < A + 1 + 1 + 1 → S[k]? = some (.lst [.int q.1, .int q.2.1, .int q.2.2]) → RowIs (S.set (A + 1 + 1 + 1) (.lst ([D.loc A, D.loc (A + 1), D.loc (A + 1 + 1)].set i.toNat (rD p)))) (.loc k) q := fun k q hk hq =>
      tup_loc (by rw [List.getElem?_set, if_neg (by omega)]; exact hq)
    have t0 := t A M.1 (by omega) f0
    have t1 := t (A + 1) M.2.1 (by omega) f1
    have t2 := t (A + 1 + 1) M.2.2 (by omega) f2
    have tp : ∀ S, RowIs S (rD p) p := fun S => tup_lst
    have hP' := hP _ rfl
    rcases three h0 h1 with rfl | rfl | rfl
    · exact found_ok g3 (tp _) t1 t2 hP'
    · exact found_ok g3 t0 (tp _) t2 hP'
    · exact found_ok g3 t0 t1 (tp _) hP'
theorem dk_any {E : Sto} {k : Nat} {o : O} (h : DkP N (T ++ E) S) (hk : T.length + 2 ≤ k) : ∃ E', DkP N (T ++ E') (S.set k o) := by
  obtain ⟨j, rfl⟩ : ∃ j, k = T.length + j + 2 := ⟨k - T.length - 2, by omega⟩
  exact ⟨_, dk_setE h⟩
end
theorem near_made {M : Ch} (hW : Wt 1000000 M) (hS : Sees M) (h : DkP N T S) (hN : N + 200 ≤ 1000000000) :
    Ens (m__law_near_chart [.loc 1, chD M] S) fun a S' => IsCh 1000000 a ∧ DkP (N + 200) T S' := by
  unfold m__law_near_chart
  refine ens_gc' ?_
  have hO := hW.ok hS
  simp [b__law_near_chart, startE, -Ens_mIf, -EnsS_sIf, -Ens_mLc]
  refine (dr h (by omega) (by decide) (by decide)).mono ?_
  rintro _ S1 ⟨way, rfl, w0, w1, h1⟩
  refine (pick_ok h1 (by omega) (by simp) (by simp)).mono ?_
  rintro b S2 ⟨hb, h2⟩
  obtain ⟨by', rfl, hby⟩ : ∃ u, b = .int u ∧ Bd u 4 := by
    simp at hb
    rcases hb with rfl | rfl | rfl | rfl | rfl | rfl | rfl <;> exact ⟨_, rfl, bd_lt (by decide) (by decide)⟩
  refine (dr h2 (by omega) (by decide) (by decide)).mono ?_
  rintro _ S3 ⟨at', rfl, a0, a1, h3⟩
  refine (dr h3 (by omega) (by decide) (by decide)).mono ?_
  rintro _ S4 ⟨to, rfl, t0, t1, h4⟩
  have hl := dk_len h4
  have d1 := dk_pushE (E := []) (o := .lst [.int M.1.1, .int M.1.2.1, .int M.1.2.2]) (by simpa using h4)
  have d2 := dk_pushE (o := .lst [.int M.2.1.1, .int M.2.1.2.1, .int M.2.1.2.2]) d1
  have d3 := dk_pushE (o := .lst [.int M.2.2.1, .int M.2.2.2.1, .int M.2.2.2.2]) d2
  have d4 := dk_pushE (o := .lst [.loc (T.length + 2), .loc (T.length + 2 + 1), .loc (T.length + 2 + 1 + 1)]) d3
  simp [Ens_lc_cons, Ens_lc_nil, wipeE, hl, -Ens_mIf, -EnsS_sIf]
  obtain ⟨A, hA⟩ : ∃ A, T.length + 2 = A := ⟨_, rfl⟩
  rw [hA] at d4 ⊢
  simp only [List.nil_append, List.cons_append, List.append_assoc] at d4
  generalize S4 ++ [O.lst [D.int M.1.1, D.int M.1.2.1, D.int M.1.2.2], O.lst [D.int M.2.1.1, D.int M.2.1.2.1, D.int M.2.1.2.2], O.lst [D.int M.2.2.1, D.int M.2.2.2.1, D.int M.2.2.2.2], O.lst [D.loc A, D.loc (A + 1), D.loc (A + 1 + 1)]] = S5 at d4 ⊢
  clear d1 d2 d3
  have F : ∀ N S, DkP N (T ++ [O.lst [D.int M.1.1, D.int M.1.2.1, D.int M.1.2.2], O.lst [D.int M.2.1.1, D.int M.2.1.2.1, D.int M.2.1.2.2], O.lst [D.int M.2.2.1, D.int M.2.2.2.1, D.int M.2.2.2.2], O.lst [D.loc A, D.loc (A + 1), D.loc (A + 1 + 1)]]) S →
      Rw S A M := fun N S h => by
    have f0 := dk_atE h (k := 0) rfl
    have f1 := dk_atE h (k := 1) rfl
    have f2 := dk_atE h (k := 2) rfl
    have f3 := dk_atE h (k := 3) rfl
    rw [show T.length + 0 + 2 = A by omega] at f0
    rw [show T.length + 1 + 2 = A + 1 by omega] at f1
    rw [show T.length + 2 + 2 = A + 1 + 1 by omega] at f2
    rw [show T.length + 3 + 2 = A + 1 + 1 + 1 by omega] at f3
    exact ⟨f0, f1, f2, f3⟩
  refine EnsS.mono (P := NcP M way by' (N + 190) T) ?_ ?_
  · have big1 := (wt_mid hW).big
    simp [-EnsS_sSeq, -EnsS_sAsg]
    refine ⟨fun _ => ?_, fun _ => ⟨fun _ => ?_, fun _ => ⟨fun _ => ?_, fun _ => ⟨fun _ => ?_, fun _ => ⟨fun _ => ?_, fun _ => ⟨fun _ => ?_, fun _ => ?_⟩⟩⟩⟩⟩⟩
    · have bk : Bd by' 64 := hby.up (by decide)
      have e := fun S => scaled_eq (S := S) (k := by') big1
      simp [Ens_is (e _)]
      exact ⟨scC by' M, S5, _, _, _, _, _, rfl, big_scale (wt_mid hW) hby, _, d4.up (by omega)⟩
    · have R := F _ _ d4
      obtain ⟨g1, g2⟩ := rw_loc R a0 a1
      obtain ⟨i, gi, hi⟩ : ∃ i, ixD S5 (.loc (A + at'.toNat)) (.int to) = some (.int i) ∧ -1000000 ≤ i ∧ i ≤ 1000000 := by
        have hw := rowN_wt hW at'
        rw [ixD_loc g2]
        rcases three t0 t1 with rfl | rfl | rfl
        · exact ⟨(rowN M at').1, by simp, hw _ (by simp)⟩
        · exact ⟨(rowN M at').2.1, by simp, hw _ (by simp)⟩
        · exact ⟨(rowN M at').2.2, by simp, hw _ (by simp)⟩
      rw [EnsS_sSeq, show (sAsg (mB tupleD (aCons (mLc (iSeq (mVar 6)) (gN 7) bYes (mB tupleD (aCons (mVar 7) aNil)) [7]) aNil)) (gN 8)) = ncFound from rfl]
      simp [g1, gi]
      refine (pick_ok d4 (by omega) (by simp) (by simp)).mono ?_
      rintro b S6 ⟨hb, h6⟩
      obtain ⟨v, rfl, hv⟩ : ∃ u, b = .int u ∧ -2 ≤ u ∧ u ≤ 2 := by
        simp at hb
        rcases hb with rfl | rfl | rfl <;> exact ⟨_, rfl, by decide, by decide⟩
      have R := F _ _ h6
      obtain ⟨g1, g2⟩ := rw_loc R a0 a1
      obtain ⟨k1, k2⟩ := rw_put R a0 a1 t0 t1 (v := i + v)
      simp [g1, k1]
      refine rw_found k2 ?_
      obtain ⟨E', h7⟩ := dk_any h6 (k := A + at'.toNat) (o := .lst [.int (putN (rowN M at') to (i + v)).1, .int (putN (rowN M at') to (i + v)).2.1, .int (putN (rowN M at') to (i + v)).2.2]) (by omega)
      refine ⟨_, _, _, _, _, _, _, rfl, (mid_of fun n hn => ?_).big, E', h7.up (by omega)⟩
      have hw : Wt 1000002 M := fun n hn => by
        have := hW n hn
        omega
      have := setN_wt hw (putN_wt (rowN_wt hw at') (by omega) to) at' n hn
      omega
    · have R := F _ _ d4
      obtain ⟨g1, g2⟩ := rw_loc R a0 a1
      obtain ⟨S6, k1, k2⟩ := rw_new R a0 a1 (p := (-(rowN M at').1, -(rowN M at').2.1, -(rowN M at').2.2)) (P := NcP M way by' (N + 190) T) (x0 := some (.loc 1)) (x1 := some (chD M)) (x2 := some (.int way)) (x3 := some (.int by')) (x4 := some (.int at')) (x5 := some (.int to)) (x7 := none) (x8 := none) (x9 := none) (fun S' hS' => by
        subst hS'
        obtain ⟨E', h7⟩ := dk_any d4 (k := A + 1 + 1 + 1) (o := .lst ([D.loc A, D.loc (A + 1), D.loc (A + 1 + 1)].set at'.toNat (rD (-(rowN M at').1, -(rowN M at').2.1, -(rowN M at').2.2)))) (by omega)
        refine ⟨_, _, _, _, _, _, _, rfl, (mid_of fun n hn => ?_).big, E', h7.up (by omega)⟩
        have hw := rowN_wt hW at'
        have q1 := hw (rowN M at').1 (by simp)
        have q2 := hw (rowN M at').2.1 (by simp)
        have q3 := hw (rowN M at').2.2 (by simp)
        have := setN_wt hW (wtr (m := 1000000) (a := -(rowN M at').1) (b := -(rowN M at').2.1) (c := -(rowN M at').2.2) (by omega) (by omega) (by omega)) at' n hn
        omega)
      have gd : gdSeq (D.loc (A + at'.toNat)) [.int (rowN M at').1, .int (rowN M at').2.1, .int (rowN M at').2.2] S5 := by rw [gdSeq_loc, seq_loc g2]
      rw [EnsS_sSeq, show (sAsg (mB tupleD (aCons (mLc (iSeq (mVar 6)) (gN 7) bYes (mB tupleD (aCons (mVar 7) aNil)) [7]) aNil)) (gN 8)) = ncFound from rfl]
      simp [g1, seq_loc g2, Ens_lc_cons, Ens_lc_nil, wipeE, gd, k1]
      exact k2
    · have R := F _ _ d4
      obtain ⟨g1, g2⟩ := rw_loc R a0 a1
      have hw := rowN_wt hW at'
      have q1 := hw (rowN M at').1 (by simp)
      have q2 := hw (rowN M at').2.1 (by simp)
      have q3 := hw (rowN M at').2.2 (by simp)
      have b1 : Bd (rowN M at').1 20 := bd_lt (by omega) (by omega)
      have b2 : Bd (rowN M at').2.1 20 := bd_lt (by omega) (by omega)
      have b3 : Bd (rowN M at').2.2 20 := bd_lt (by omega) (by omega)
      obtain ⟨S6, k1, k2⟩ := rw_new R a0 a1 (p := (2 * (rowN M at').1, 2 * (rowN M at').2.1, 2 * (rowN M at').2.2)) (P := NcP M way by' (N + 190) T) (x0 := some (.loc 1)) (x1 := some (chD M)) (x2 := some (.int way)) (x3 := some (.int by')) (x4 := some (.int at')) (x5 := some (.int to)) (x7 := none) (x8 := none) (x9 := none) (fun S' hS' => by
        subst hS'
        obtain ⟨E', h7⟩ := dk_any d4 (k := A + 1 + 1 + 1) (o := .lst ([D.loc A, D.loc (A + 1), D.loc (A + 1 + 1)].set at'.toNat (rD (2 * (rowN M at').1, 2 * (rowN M at').2.1, 2 * (rowN M at').2.2)))) (by omega)
        refine ⟨_, _, _, _, _, _, _, rfl, (mid_of fun n hn => ?_).big, E', h7.up (by omega)⟩
        have hW2 : Wt 2000000 M := fun n hn => by
          have := hW n hn
          omega
        have := setN_wt hW2 (wtr (m := 2000000) (a := 2 * (rowN M at').1) (b := 2 * (rowN M at').2.1) (c := 2 * (rowN M at').2.2) (by omega) (by omega) (by omega)) at' n hn
        omega)
      have gd : gdSeq (D.loc (A + at'.toNat)) [.int (rowN M at').1, .int (rowN M at').2.1, .int (rowN M at').2.2] S5 := by rw [gdSeq_loc, seq_loc g2]
      rw [EnsS_sSeq, show (sAsg (mB tupleD (aCons (mLc (iSeq (mVar 6)) (gN 7) bYes (mB tupleD (aCons (mVar 7) aNil)) [7]) aNil)) (gN 8)) = ncFound from rfl]
      simp [g1, seq_loc g2, Ens_lc_cons, Ens_lc_nil, wipeE, gd, k1]
      exact k2
    · obtain ⟨h1', h2', h3'⟩ := wt_parts hW
      simp
      exact ⟨(M.2.1, M.1, M.2.2), S5, _, _, _, _, _, rfl, (wt_mid (wt_rows h2' h1' h3')).big, _, d4.up (by omega)⟩
    · have e := fun S => lowest_eq (S := S) hO
      have hl' := lowC_wt hW hS
      rw [EnsS_sAsg]
      simp [Ens_is (e _)]
      refine (pick_ok d4 (by omega) (by simp) (by simp)).mono ?_
      rintro b S6 ⟨hb, h6⟩
      obtain ⟨v, rfl, hv⟩ : ∃ u, b = .int u ∧ Bd u 4 := by
        simp at hb
        rcases hb with rfl | rfl | rfl <;> exact ⟨_, rfl, bd_lt (by decide) (by decide)⟩
      have bv : Bd v 64 := hv.up (by decide)
      have e2 := fun S => scaled_eq (S := S) (k := v) (wt_mid hl').big
      simp [Ens_is (e2 _)]
      exact ⟨scC v (lowC M), S6, _, _, _, _, _, rfl, big_scale (wt_mid hl') hv, _, h6.up (by omega)⟩
    · rw [EnsS_sAsg]
      simp
      refine (pick_ok d4 (by omega) (by simp) (by simp)).mono ?_
      rintro b S6 ⟨hb, h6⟩
      obtain ⟨v, rfl, hv⟩ : ∃ u, b = .int u ∧ 1 ≤ u ∧ u ≤ 1000000 := by
        simp at hb
        rcases hb with rfl | rfl | rfl <;> exact ⟨_, rfl, by decide, by decide⟩
      refine (chart_made h6 (by omega) hv.1 hv.2).mono ?_
      rintro _ S7 ⟨⟨M', rfl, hW', hS'⟩, h7⟩
      exact ⟨M', S7, _, _, _, _, _, rfl, hW'.big (by omega), _, h7.up (by omega)⟩
  rintro _ ⟨M', S6, b, d, e, f, g, rfl, hB, E, h6⟩
  obtain ⟨b1, e1, hb1⟩ := lchart_eq hB
  obtain ⟨b2, e2, hb2⟩ := small_ok (M := M')
  obtain ⟨g1, g2⟩ := dk_gc h h6
  have lo : ∀ M : Ch, D.lo S.length (chD M) := fun M => ⟨⟨trivial, trivial, trivial, trivial⟩, ⟨trivial, trivial, trivial, trivial⟩, ⟨trivial, trivial, trivial, trivial⟩, trivial⟩
  have g3 := g2.up (M := N + 200) (by omega)
  have same : gcOk S S6 ∧ D.lo S.length (chD M) ∧ IsCh 1000000 (chD M) ∧ DkP (N + 200) T (S6.take S.length) := ⟨g1, lo M, ⟨M, rfl, hW, hS⟩, g3⟩
  have new : b1 = true → b2 = true → gcOk S S6 ∧ D.lo S.length (chD M') ∧ IsCh 1000000 (chD M') ∧ DkP (N + 200) T (S6.take S.length) := fun q1 q2 => ⟨g1, lo M', ⟨M', rfl, fun n hn => by
    have := hb2 q2 n hn
    omega, hb1 q1⟩, g3⟩
  have e2' : ∀ S, m__law_are_small [chD M', .int 1000000] S = .ok (.bl b2) S := e2
  rw [then_nx]
  simp [Ens_is (e1 _), Ens_is (e2' _)]
  exact ⟨fun q1 => ⟨fun q2 => new q1 q2, fun _ => same⟩, fun _ => same⟩
end
end K31

namespace K31
open PySem PySem.Spec PyProof.Rows L2 Mi
section
variable {S T : Sto} {N : Nat}
/-! ### spots on a chart's border -/
theorem lspotn {x y w : Int} {m : Nat} [b : Bd w m] (hm : m ≤ 8000) (h : w ≠ 0) : ∃ x' y' w' : Int, 0 < w' ∧ (∀ S, m__law_spot [.int x, .int y, .int w] S = .ok (spD3 x' y' w') S) := by
  by_cases hw : 0 < w
  · exact ⟨x, y, w, hw, fun S => lspot_eq hm hw⟩
  · have hw' : w < 0 := by omega
    have hn : 0 < -w := by omega
    refine ⟨-x, -y, -w, hn, fun S => ens_eq ?_⟩
    have hg := g3_pos (x := -x) (y := -y) hn
    have hg' : g2 (g2 (-x) (-y)) (-w) ≠ 0 := by unfold g3 at hg; omega
    have b1 : Bd (g2 (g2 (-x) (-y)) (-w)) m := bd_g2 hn
    have hq : 0 ≤ g2 (g2 (-x) (-y)) (-w) := g2_nonneg _ _
    simp [m__law_spot, b__law_spot, startE, Ens_is lgcd_eq, hw', fdivD_int, hm, hg', spD3, g3, Int.fdiv_eq_ediv_of_nonneg _ hq]
theorem border_made {M : Ch} (hW : Wt 1000000 M) (hS : Sees M) (h : DkP N T S) (hN : N + 50 ≤ 1000000000) :
    Ens (m__law_border_spot [.loc 1, chD M, .int 1000000] S) fun a S' => SpOk 1000000 a ∧ DkP (N + 50) T S' := by
  have hO := hW.ok hS
  obtain ⟨b1, b2, b3, b4, b5, b6, b7, b8, b9, _⟩ := hO
  simp [m__law_border_spot, b__law_border_spot, startE, -Ens_mIf, -EnsS_sIf]
  refine (number_ok h (by omega) (by decide) (by decide)).mono ?_
  rintro _ S1 ⟨u, rfl, u0, u1, h1⟩
  refine (number_ok h1 (by omega) (by decide) (by decide)).mono ?_
  rintro _ S2 ⟨v, rfl, v0, v1, h2⟩
  have bu : Bd u 20 := bd_lt (by omega) (by omega)
  have bv : Bd v 20 := bd_lt (by omega) (by omega)
  simp [-Ens_mIf, -EnsS_sIf]
  refine (pick_ok h2 (by omega) (by simp) (by simp)).mono ?_
  rintro d S3 ⟨hd, h3⟩
  obtain ⟨x, y, w, rfl, bx, by_, bw⟩ : ∃ x y w : Int, d = t3 x y w ∧ Bd x 200 ∧ Bd y 200 ∧ Bd w 200 := by
    have z : Bd 0 200 := (inferInstance : Bd 0 64).up (by decide)
    have k : ∀ {i : Int} {n : Nat}, Bd i n → n ≤ 200 → Bd i 200 := fun b h => b.up h
    simp only [List.mem_cons, List.not_mem_nil, or_false] at hd
    rcases hd with rfl | rfl | rfl | rfl | rfl
    · exact ⟨_, _, _, rfl, k (inferInstance : Bd _ (20 + 20 + (20 + 20) + 1)) (by decide), k (inferInstance : Bd _ (20 + 20)) (by decide), k (inferInstance : Bd _ (20 + 20)) (by decide)⟩
    · exact ⟨_, _, _, rfl, k (inferInstance : Bd _ (20 + 20)) (by decide), k (inferInstance : Bd _ (20 + 20 + (20 + 20) + 1)) (by decide), k (inferInstance : Bd _ (20 + 20)) (by decide)⟩
    · exact ⟨_, _, _, rfl, b8.up (by decide), k (inferInstance : Bd _ 20) (by decide), z⟩
    · exact ⟨_, _, _, rfl, k (inferInstance : Bd _ 20) (by decide), z, b7.up (by decide)⟩
    · exact ⟨_, _, _, rfl, z, k (inferInstance : Bd _ 20) (by decide), b8.up (by decide)⟩
  have any : Ens (m__law_any_spot [.loc 1, .int 1000000] S3) fun a S' => SpOk 1000000 a ∧ DkP (N + 50) T S' := by
    refine (anyspot_ok h3 (by omega) (by decide) (by decide)).mono ?_
    rintro a S4 ⟨ha, h4⟩
    exact ⟨ha, h4.up (by omega)⟩
  simp
  refine ⟨fun hw => ⟨fun _ => ?_, fun _ => any⟩, fun _ => any⟩
  obtain ⟨x', y', w', hw', e⟩ := lspotn (x := x) (y := y) (w := w) (m := 200) (by decide) hw
  obtain ⟨g, a, b, c, hg, ha, hb, hc, hc0, hcw, hl, e4, e5, e6⟩ := low_parts (x := x') (y := y') hw'
  simp [Ens_is (e _), e4]
  obtain ⟨bb, eb, hbb⟩ := within_ok (S := S3) (x := a) (y := b) (w := c) (M := 1000000)
  simp [Ens_is eb]
  refine ⟨fun q => ?_, fun _ => any⟩
  obtain ⟨q1, q2, q3, q4, q5⟩ := hbb q
  exact ⟨⟨a, b, c, rfl, q1, q2, q3, q4, by omega, q5, hl⟩, h3.up (by omega)⟩
end
end K31

namespace K31
set_option exponentiation.threshold 2000
open PySem PySem.Spec PyProof.Rows L2 Mi
section
variable {S T : Sto} {N : Nat}
/-! ### odd values -/
@[simp] theorem Ens_mRevX {m : TM} {env : En} {Pd : D → Sto → Prop} : Ens (mRevX m env S) Pd ↔ Ens (m env S) fun d S1 => Ens (R.of (revX S1 d) S1) Pd := by unfold mRevX; simp
@[simp] theorem revX_tup {l : List D} : revX S (.tup l) = some (.tup l.reverse) := rfl
theorem mem_rep {l : List D} {n : Nat} {d : D} (h : d ∈ (List.replicate n l).flatten) : d ∈ l := by
  obtain ⟨m, hm, hd⟩ := List.mem_flatten.mp h
  rw [List.eq_of_mem_replicate hm] at hd
  exact hd
theorem mulD_lst {l : List D} {j : Int} (h0 : 0 ≤ j) (h1 : j ≤ 100000) (h2 : l.length * j.toNat ≤ 16777216) : mulD S (.lst l) (.int j) = some (.lst (List.replicate j.toNat l).flatten) := if_pos ⟨h0, h1, h2⟩
theorem mul3 {l : List D} (h : l.length ≤ 100) : mulD S (.lst l) (.int 3) = some (.lst (l ++ l ++ l)) := by
  rw [mulD_lst (by decide) (by decide) (by show l.length * 3 ≤ _; omega)]
  show some (D.lst (List.replicate 3 l).flatten) = _
  simp [List.replicate]
def kk : Nat → Nat
  | 0 => 300
  | n + 1 => (kk n + 2) * 12 + 3
theorem kk_up : ∀ n, 300 ≤ kk n
  | 0 => Nat.le_refl _
  | n + 1 => by have := kk_up n; simp only [kk]; omega
/-- what odd values are made of -/
def inn : Nat → D → Bool
  | 0, _ => false
  | n + 1, .tup l => l.all (inn n) && decide (l.length ≤ 5)
  | _ + 1, .int i => decide (i.natAbs < 2 ^ 60)
  | _ + 1, .str x => decide (x = "parted")
  | _ + 1, .non => true
  | _ + 1, _ => false
theorem inn_ev : ∀ (n : Nat) (d : D), inn n d = true → Ev 200 (kk n) n d
  | 0, _, h => by cases h
  | n + 1, .tup l, h => by
    have h' : (∀ x ∈ l, inn n x = true) ∧ l.length ≤ 5 := by simpa [inn] using h
    exact ev_tup (fun d hd => inn_ev n d (h'.1 d hd)) (n := 12) (by omega) (by decide)
  | n + 1, .int i, h => by
    have h' : i.natAbs < 2 ^ 60 := by simpa [inn] using h
    have := kk_up (n + 1)
    exact (ev_int (m := n + 1) (by decide) (by decide) (Nat.lt_of_lt_of_le h' (Nat.pow_le_pow_right (by decide) (by decide)) : i.natAbs < 2 ^ 200)).up (by omega) (Nat.le_refl _)
  | n + 1, .str x, h => by
    have h' : x = "parted" := by simpa [inn] using h
    subst h'
    have := kk_up (n + 1)
    exact (ev_iff.mp (by decide +kernel : evb 200 300 0 (.str "parted") = true)).up (by omega) (Nat.zero_le _)
  | n + 1, .non, h => by
    have := kk_up (n + 1)
    exact (ev_iff.mp (by decide +kernel : evb 200 300 0 .non = true)).up (by omega) (Nat.zero_le _)
  | n + 1, .bl _, h => by cases h
  | n + 1, .lst _, h => by cases h
  | n + 1, .wls _, h => by cases h
  | n + 1, .loc _, h => by cases h
  | n + 1, .gl _, h => by cases h
  | n + 1, .ty _, h => by cases h
  | n + 1, .dic _ _, h => by cases h
  | n + 1, .ftp _, h => by cases h
def base31 : List D := [.non, .bl true, .bl false, .int 0, .int 1, .int (-1), .int 2, .str "", .str "0", .str "at", .str "a\n~", .tup [], .tup [.tup []], .lst [], .dic [] [], .tup [.int 0], .tup [.int 0, .int 0], .lst [.int 0, .int 0, .int 1], .tup [.int 0, .int 0, .int 0], .int (10 ^ 39), .tup [.int 0, .int 0, .int 1], .tup [.int 2, .int 4, .int 2], .dic [.inr "a"] [.tup [.int 1, .int 2]], .tup [.bl true, .int 0, .int 1], .tup [.int 0, .int 0, .bl true]]
theorem base_ev {n m : Nat} (hm : 3 ≤ m) : ∀ d ∈ base31, Ev 200 (kk n) m d := fun d hd => by
  have h := List.all_eq_true.mp (by decide +kernel : base31.all (evb 200 300 3) = true) d hd
  exact (ev_iff.mp h).up (kk_up n) hm
theorem slA_str {x : Str} {lo hi : Option Int} (h : x.length ≤ 16777216) : slA S (.str x) lo hi = some (.str (cutS x lo hi)) := if_pos h
theorem upper_str {x : Str} (h : x.length ≤ 5592405) : upperD S (.str x) [] = some (.str (Txt.upper x), S) := if_pos h
theorem revX_str {x : Str} (h : (revS x).length ≤ 16777216) : revX S (.str x) = some (.str (revS x)) := if_pos h
theorem odd_ok {n : Nat} {it : D} (h : DkP N T S) (hN : N + 1 ≤ 1000000000) (hi : inn n it = true) : Ens (m__law_odd [.loc 1, it] S) fun a S' => Ev 200 (kk (n + 1)) (n + 3) a ∧ DkP (N + 1) T S' := by
  have fin : ∀ (Y : List D) (S : Sto), DkP N T S → Y.length ≤ 100 → (∀ d ∈ Y, Ev 200 (kk (n + 1)) (n + 3) d) → Ens (m__law_pick [.loc 1, .lst (base31 ++ (Y ++ Y ++ Y))] S) fun a S' => Ev 200 (kk (n + 1)) (n + 3) a ∧ DkP (N + 1) T S' := fun Y S h hl hY =>
    (pickL_ok h (by omega) (by simp [base31]) (by simp [base31]; omega)).mono fun a S' ⟨h1, h2⟩ => ⟨by
      rcases List.mem_append.mp h1 with z | z
      · exact base_ev (n := n + 1) (by omega) a z
      · refine hY a ?_
        simpa using z, h2⟩
  have add : ∀ (Y : List D) (S : Sto), Y.length ≤ 100 → addD S (.lst base31) (.lst (Y ++ Y ++ Y)) = some (.lst (base31 ++ (Y ++ Y ++ Y))) := fun Y S hl => addD_lst (by simp [base31]; omega)
  unfold m__law_odd b__law_odd
  rw [Ens_fnP, EnsS_sSeq]
  refine EnsS.mono (P := fun r => r = .nx [some (.loc 1), some it, some (.lst base31)] S) (by simp [startE, base31]) ?_
  rintro _ rfl
  have kn : ∀ {m : Nat}, kk n ≤ kk (n + 1) := by
    simp only [kk]; omega
  cases n with
  | zero => cases hi
  | succ n =>
  have ei := inn_ev _ _ hi
  cases it with
  | tup l =>
    have h' : (∀ x ∈ l, inn n x = true) ∧ l.length ≤ 5 := by simpa [inn] using hi
    have hl : ∀ d ∈ l, Ev 200 (kk n) n d := fun d hd => inn_ev n d (h'.1 d hd)
    have c1 := fun lo hi => cut_len' (l := l) (lo := lo) (hi := hi)
    have big : ∀ m : List D, (∀ d ∈ m, Ev 200 (kk n) n d) → m.length ≤ 12 → Ev 200 (kk (n + 2)) (n + 1 + 3) (.tup m) := fun m hm hml => (ev_tup hm hml (by decide)).up (by simp only [kk]; omega) (by omega)
    have e0 : Ev 200 (kk n) n (.int 0) := by
      have h : Ev 200 300 0 (.int 0) := ev_iff.mp (by decide +kernel)
      exact h.up (kk_up n) (Nat.zero_le _)
    have cc : ∀ lo hi, ∀ d ∈ Mi.cutD l lo hi, Ev 200 (kk n) n d := fun lo hi d hd => hl d (cut_mem hd)
    have a1 : ∀ S, addD S (.tup l) (.tup [.int 0]) = some (.tup (l ++ [.int 0])) := fun S => addD_tup (by simp; omega)
    have a2 : ∀ S, addD S (.tup l) (.tup (Mi.cutD l none (some 1))) = some (.tup (l ++ Mi.cutD l none (some 1))) := fun S => addD_tup (by have := c1 none (some 1); omega)
    have a3 : ∀ S, addD S (.tup (Mi.cutD l none (some 1))) (.tup l) = some (.tup (Mi.cutD l none (some 1) ++ l)) := fun S => addD_tup (by have := c1 none (some 1); omega)
    simp [isiD, D.tyn, askTys, isiB, a1, a2, a3, -addD_tup, -addD_lst]
    rw [mul3 (by simp)]
    simp only [Mi.R.of_some, Ens_ok]
    rw [add _ _ (by simp)]
    simp only [Mi.R.of_some, Ens_ok]
    refine fin _ S h (by simp) fun d hd => ?_
    have app : ∀ {a b : List D}, (∀ d ∈ a, Ev 200 (kk n) n d) → (∀ d ∈ b, Ev 200 (kk n) n d) → ∀ d ∈ a ++ b, Ev 200 (kk n) n d := fun ha hb d hd => (List.mem_append.mp hd).elim (ha d) (hb d)
    simp only [List.mem_cons, List.not_mem_nil, or_false] at hd
    rcases hd with rfl | rfl | rfl | rfl | rfl | rfl | rfl | rfl
    · exact (ev_lst hl (n := 12) (by omega) (by decide)).up (by simp only [kk]; omega) (by omega)
    · exact big _ (app hl (by simpa using e0)) (by simp; omega)
    · exact big _ (cc _ _) (by have := c1 (some 1) none; omega)
    · exact big _ (cc _ _) (by have := c1 none (some (-1)); omega)
    · exact big _ (fun d hd => hl d (List.mem_reverse.mp hd)) (by simp; omega)
    · exact big _ (app hl (cc _ _)) (by have := c1 none (some 1); simp; omega)
    · exact (ev_tup (l := [.tup l]) (n := 12) (fun d hd => by
        have : d = .tup l := by simpa using hd
        rw [this]; exact ei) (by simp) (by decide)).up (by simp only [kk]; omega) (by omega)
    · exact big _ (app (cc _ _) hl) (by have := c1 none (some 1); simp; omega)
  | int i =>
    have hi' : i.natAbs < 2 ^ 60 := by simpa [inn] using hi
    have b : Bd i 60 := ⟨hi'⟩
    have hlog : i.natAbs.log2 < 1920 := by
      by_cases z : i.natAbs = 0
      · rw [z]; decide
      · exact (Nat.log2_lt z).mpr (Nat.lt_of_lt_of_le hi' (Nat.pow_le_pow_right (by decide) (by decide)))
    have hab : (if i < 0 then -i else i) < (10 : Int) ^ 30 := by
      have : (2 : Nat) ^ 60 < 10 ^ 30 := by decide
      split <;> omega
    have e1 : ∀ j : Int, j.natAbs ≤ 2 * i.natAbs + 1 → Ev 200 300 0 (.int j) := fun j hj => (ev_int (m := 0) (by decide) (by decide) (by
      have : (2 : Nat) ^ 60 * 2 + 1 < 2 ^ 200 := by decide
      omega : j.natAbs < 2 ^ 200)).up (by decide) (Nat.le_refl _)
    have up : ∀ d, Ev 200 (12 * (300 + 2) + 3) 1 d → Ev 200 (kk (n + 2)) (n + 1 + 3) d := fun d h => h.up (by have := kk_up (n + 1); simp only [kk] at this ⊢; omega) (by omega)
    have up0 : ∀ d, Ev 200 300 0 d → Ev 200 (kk (n + 2)) (n + 1 + 3) d := fun d h => h.up (kk_up _) (by omega)
    have hb : ∀ b : Bool, Ev 200 300 0 (.bl b) := fun b => by cases b <;> exact ev_iff.mp (by decide +kernel)
    have hs : Ev 200 (12 * (300 + 2) + 3) 1 (.str (toString i : String)) := by
      have hl : (toString i).length ≤ 201 := int_text_length_le (by decide) (by
        by_cases z : i.natAbs = 0
        · rw [z]; decide
        · exact (Nat.log2_lt z).mpr (Nat.lt_of_lt_of_le hi' (Nat.pow_le_pow_right (by decide) (by decide))))
      exact (ev_str (sh_toString i) (n := 201) (by rw [PySem.ofString_length]; exact hl)).up (by decide) (Nat.le_refl _)
    simp [isiD, D.tyn, askTys, isiB, strD_ok hlog, hab, -addD_lst]
    refine ⟨fun _ => ?_, fun z => by omega⟩
    rw [mul3 (by simp)]
    simp only [Mi.R.of_some, Ens_ok]
    rw [add _ _ (by simp)]
    simp only [Mi.R.of_some, Ens_ok]
    refine fin _ S h (by simp) fun d hd => ?_
    simp only [List.mem_cons, List.not_mem_nil, or_false] at hd
    rcases hd with rfl | rfl | rfl | rfl | rfl | rfl | rfl | rfl | rfl
    · exact up0 _ (e1 _ (by omega))
    · exact up0 _ (e1 _ (by omega))
    · exact up0 _ (e1 _ (by omega))
    · exact up0 _ (hb _)
    · exact up0 _ (hb _)
    · exact up _ ((ev_lst (l := [.int i]) (n := 12) (fun d hd => by
        have : d = .int i := by simpa using hd
        rw [this]; exact e1 _ (by omega)) (by simp) (by decide)).up (by decide) (Nat.le_refl _))
    · exact up _ ((ev_tup (l := [.int i]) (n := 12) (fun d hd => by
        have : d = .int i := by simpa using hd
        rw [this]; exact e1 _ (by omega)) (by simp) (by decide)).up (by decide) (Nat.le_refl _))
    · exact up _ hs
    · exact up0 _ (e1 _ (by omega))
  | str x =>
    have h' : x = "parted" := by simpa [inn] using hi
    subst h'
    simp [isiD, D.tyn, askTys, isiB, -addD_lst]
    have hx : ∀ s : String, (PySem.Str.ofString s).length ≤ 100 → ∀ S, addD S (.str (PySem.Str.ofString "parted")) (.str (PySem.Str.ofString s)) = some (.str (PySem.Str.ofString "parted" ++ PySem.Str.ofString s)) := fun s hs S => if_pos (by
      have : (PySem.Str.ofString "parted").length ≤ 100 := by decide +kernel
      omega)
    have h1 := hx "0" (by decide +kernel)
    have h2 := hx " " (by decide +kernel)
    have h3 := fun S => slA_str (S := S) (x := PySem.Str.ofString "parted") (lo := none) (hi := some (-1)) (by decide +kernel)
    have h4 := fun S => upper_str (S := S) (x := PySem.Str.ofString "parted") (by decide +kernel)
    have h5 := fun S => revX_str (S := S) (x := PySem.Str.ofString "parted") (by decide +kernel)
    have h6 : ∀ S, isT S "str" (.str (PySem.Str.ofString "parted")) = true := fun S => rfl
    simp [h1, h2, h3, h4, h5, h6, -addD_lst]
    rw [mul3 (by simp)]
    simp only [Mi.R.of_some, Ens_ok]
    rw [add _ _ (by simp)]
    simp only [Mi.R.of_some, Ens_ok]
    refine fin _ S h (by simp) fun d hd => ?_
    have key := List.all_eq_true.mp (by decide +kernel : [D.str (PySem.Str.ofString "parted" ++ PySem.Str.ofString "0"), .str (cutS (PySem.Str.ofString "parted") none (some (-1))), .str (Txt.upper (PySem.Str.ofString "parted")), .str (PySem.Str.ofString "parted" ++ PySem.Str.ofString " "), .lst [.str (PySem.Str.ofString "parted")], .tup [.str (PySem.Str.ofString "parted")], .str (revS (PySem.Str.ofString "parted"))].all (evb 200 300 1) = true) d hd
    exact (ev_iff.mp key).up (kk_up _) (by omega)
  | non =>
    simp [isiD, D.tyn, askTys, isiB, -addD_lst]
    have := fin [] S h (by simp) (by simp)
    simpa using this
  | _ => cases hi
end
end K31

namespace K31
set_option exponentiation.threshold 2000
open PySem PySem.Spec PyProof.Rows L2 Mi
section
variable {S T : Sto} {N : Nat}
/-! ### a value with something otherwise, at any depth -/
theorem bent_ok : ∀ (f n : Nat) (it : D) (N : Nat) (S : Sto), DkP N T S → N + 3 * f ≤ 1000000000 → n ≤ f → inn n it = true → Ens (m__law_bent f [.loc 1, it] S) fun a S' => Ev 200 (kk (n + 1)) (n + 3) a ∧ DkP (N + 3 * f) T S'
  | 0, n, it, N, S, h, hN, hf, hi => by
    have : n = 0 := by omega
    subst this
    cases hi
  | f + 1, 0, it, N, S, h, hN, hf, hi => by cases hi
  | f + 1, n + 1, it, N, S, h, hN, hf, hi => by
    have e : m__law_bent (f + 1) = fnP N__law_bent.length (b__law_bent (m__law_bent f)) := rfl
    have odd := fun (N' : Nat) (S : Sto) (h : DkP N' T S) (hN' : N' ≤ N + 1) => (odd_ok (n := n + 1) h (by omega) hi).mono (P' := fun a S' => Ev 200 (kk (n + 1 + 1)) (n + 1 + 3) a ∧ DkP (N + 3 * (f + 1)) T S') fun a S' ⟨h1, h2⟩ => ⟨h1, h2.up (by omega)⟩
    cases it with
    | tup l =>
      have h' : (∀ x ∈ l, inn n x = true) ∧ l.length ≤ 5 := by simpa [inn] using hi
      have hl : ∀ d ∈ l, Ev 200 (kk (n + 1)) (n + 3) d := fun d hd => (inn_ev n d (h'.1 d hd)).up (by simp only [kk]; omega) (by omega)
      by_cases hne : l = []
      · subst hne
        simp [e, b__law_bent, startE, isiD, D.tyn, askTys, isiB]
        exact odd N S h (by omega)
      · have hpos : 0 < l.length := List.length_pos_iff.mpr hne
        simp [e, b__law_bent, startE, isiD, D.tyn, askTys, isiB, hne]
        refine (dr h (by omega) (by decide) (by decide)).mono ?_
        rintro _ S1 ⟨v, rfl, hv0, hv1, h1⟩
        simp
        refine ⟨fun _ => odd _ _ h1 (by omega), fun _ => ?_⟩
        refine (dr h1 (by omega) (by omega) (by omega)).mono ?_
        rintro _ S2 ⟨w, rfl, hw0, hw1, h2⟩
        obtain ⟨x, e1, e2⟩ := atI_nat (l := l) hw0 hw1
        simp [e1]
        refine (bent_ok f n x _ S2 h2 (by omega) (by omega) (h'.1 x (List.mem_of_getElem? e2))).mono ?_
        rintro y S3 ⟨hy, h3⟩
        obtain ⟨u, rfl⟩ : ∃ u : Nat, w = u := ⟨w.toNat, by omega⟩
        have ew1 : ((u : Int) + 1) = ((u + 1 : Nat) : Int) := by omega
        rw [cut_take, addD_tup (by simp; omega)]
        simp
        rw [ew1, cut_drop, addD_tup (by simp; omega)]
        simp
        refine ⟨(ev_tup (n := 12) (fun d hd => ?_) (by simp; omega) (by decide)).up (Nat.le_refl _) (Nat.le_refl _), h3.up (by omega)⟩
        simp at hd
        rcases hd with z | rfl | z
        · exact hl d (List.mem_of_mem_take z)
        · exact hy
        · exact hl d (List.mem_of_mem_drop z)
    | int i =>
      simp [e, b__law_bent, startE, isiD, D.tyn, askTys, isiB]
      exact odd N S h (by omega)
    | str x =>
      simp [e, b__law_bent, startE, isiD, D.tyn, askTys, isiB]
      exact odd N S h (by omega)
    | non =>
      simp [e, b__law_bent, startE, isiD, D.tyn, askTys, isiB]
      exact odd N S h (by omega)
    | _ => cases hi
/-! ### papers -/
def isWd (x : Str) : D → Bool
  | .str y => decide (y = x)
  | _ => false
noncomputable def papB (M K : Ch) : D → Bool
  | .tup [a] => isWd "alike" a && alikeB M K
  | .tup [a, .tup [.int x, .int y, .int w]] => isWd "parted" a && (spB (.tup [.int x, .int y, .int w]) && partB M K (x, y, w))
  | _ => false
theorem str_py {x : Str} : SeqAt.shaped (D.str x).py = SeqAt.shaped (.str x) := rfl
theorem eq_word {x y : Str} (hy : SeqAt.shaped (.str y) = true) (hx : SeqAt.shaped (.str x) = true) : eqD S (.str y) (.str x) = some (.bl (decide (y = x))) := by
  have e : eqD S (.str y) (.str x) = if SeqAt.shaped (.str y) = true ∧ SeqAt.shaped (.str x) = true then some (.bl (PyData.eqv (.str y) (.str x))) else none := rfl
  rw [e, if_pos ⟨hy, hx⟩]
  congr 2
theorem ne_word {x y : Str} (hy : SeqAt.shaped (.str y) = true) (hx : SeqAt.shaped (.str x) = true) : neD S (.str y) (.str x) = some (.bl (!decide (y = x))) := ne_of_eq (eq_word hy hx)
theorem in_word {x a b : Str} : inD S (.str x) (.tup [.str a, .str b]) = some (.bl (decide (x = a) || decide (x = b))) := by
  have e : ((a == x || b == x) : Bool) = (decide (x = a) || decide (x = b)) := by
    rw [Bool.eq_iff_iff]
    simp only [Bool.or_eq_true, beq_iff_eq, decide_eq_true_eq]
    constructor <;> rintro (h | h) <;> simp [h]
  simp [inD, inB, der, D.flat, D.py, PyData.eqv, e]
theorem sh_alike : SeqAt.shaped (.str "alike") = true := by decide +kernel
theorem sh_parted : SeqAt.shaped (.str "parted") = true := by decide +kernel
theorem isword_od {d : D} (h : od d = true) : m_is_word [d, .tup [.str "alike", .str "parted"]] S = .ok (.bl (isWd "alike" d || isWd "parted" d)) S := ens_eq (by
  cases d <;> first | (cases h; done) | simp [m_is_word, b_is_word, startE, od_isi h, isiB, tn, askTys, isWd, in_word])
theorem sp_parts {d : D} {B : Nat} (h : spB d = true) (hb : ib B d = true) : ∃ x y w : Int, d = t3 x y w ∧ Bd x B ∧ Bd y B ∧ Bd w B ∧ spB (t3 x y w) = true := by
  obtain ⟨x, y, w, rfl, _⟩ := spB_iff3.mp h
  have h' := ib_tup.mp hb
  exact ⟨x, y, w, rfl, ⟨ib_int (h' _ (by simp))⟩, ⟨ib_int (h' _ (by simp))⟩, ⟨ib_int (h' _ (by simp))⟩, h⟩
theorem papB_not {M K : Ch} {a b : D} (h : spB b = false) : papB M K (.tup [a, b]) = false := by
  unfold papB
  split
  · rename_i e; simp at e
  · rename_i e
    simp at e
    obtain ⟨rfl, rfl⟩ := e
    simp [h]
  · rfl
theorem papB_two {M K : Ch} {y : Str} {b : D} {p q r : Int} (e : b = t3 p q r) : papB M K (.tup [.str y, b]) = (decide (y = "parted") && (spB (t3 p q r) && partB M K (p, q, r))) := by
  subst e
  rfl
theorem len_two {r : List D} {a b c : D} : ¬ ((a :: b :: c :: r).length : Int) = 1 ∧ ¬ ((a :: b :: c :: r).length : Int) = 2 := by
  simp only [List.length_cons]
  omega
theorem papB_long {M K : Ch} {a b c : D} {r : List D} : papB M K (.tup (a :: b :: c :: r)) = false := by
  unfold papB
  split <;> first | rfl | (rename_i e; simp at e)
theorem papB_nstr {M K : Ch} {a : D} {l : List D} (h : ∀ y, a ≠ .str y) : papB M K (.tup (a :: l)) = false := by
  have hw : ∀ x, isWd x a = false := fun x => by
    cases a <;> first | rfl | exact absurd rfl (h _)
  unfold papB
  split
  · rename_i e; simp at e; simp [← e.1, hw]
  · rename_i e; simp at e; simp [← e.1, hw]
  · rfl
theorem lpap_eq {M K : Ch} {d : D} (hM : ChOk M) (hK : ChOk K) (h : od d = true) (hb : ib 200 d = true) : m__law_is_paper [chD M, chD K, d] S = .ok (.bl (papB M K d)) S := ens_eq (by
  have ea := fun S => are_eq (S := S) hM hK
  cases d with
  | tup l =>
    obtain ⟨ho, hl⟩ := od_tup.mp h
    have hB := ib_tup.mp hb
    cases l with
    | nil => simp [m__law_is_paper, b__law_is_paper, startE, isiD, D.tyn, askTys, isiB, papB]
    | cons a l =>
      have ha := ho a (by simp)
      by_cases hs : ∃ y, a = .str y
      · obtain ⟨y, rfl⟩ := hs
        have hy : SeqAt.shaped (.str y) = true := ha
        have sa : ∀ S, eqD S (.str y) (.str "alike") = _ := fun S => eq_word hy sh_alike
        have sp : ∀ S, neD S (.str y) (.str "parted") = _ := fun S => ne_word hy sh_parted
        match l, ho, hB with
        | [], _, _ =>
          simp [m__law_is_paper, b__law_is_paper, startE, isiD, D.tyn, askTys, isiB, sa, sp, Ens_is (ea _), papB, isWd]
          by_cases q : y = "alike" <;> simp [q]
        | [b], ho, hB =>
          have hbo := ho b (by simp)
          have hbB := hB b (by simp)
          simp [m__law_is_paper, b__law_is_paper, startE, isiD, D.tyn, askTys, isiB, sa, sp, Ens_is (ea _), Ens_is (lisspot_od hbo)]
          have na : y = "alike" → papB M K (.tup [.str y, b]) = false := fun e => by
            subst e
            unfold papB
            split <;> first | rfl | (rename_i e; simp at e; done) | (rename_i e; simp at e; obtain ⟨rfl, rfl⟩ := e; rfl)
          refine ⟨fun e => na e, fun e => ⟨fun e2 => ?_, fun e2 => ⟨fun e3 => papB_not e3, fun e3 => ?_⟩⟩⟩
          · cases hsb : spB b with
            | false => exact papB_not hsb
            | true =>
              obtain ⟨p, q, r, hpq, _⟩ := sp_parts hsb hbB
              rw [papB_two hpq]
              simp [e2]
          · obtain ⟨p, q, r, rfl, bp, bq, br, hsp⟩ := sp_parts e3 hbB
            have s1 := fun S => lsent_eq (S := S) (x := p) (y := q) (w := r) (j := 200) (by decide) hM
            have s2 := fun S => lsent_eq (S := S) (x := p) (y := q) (w := r) (j := 200) (by decide) hK
            rw [papB_two rfl]
            simp [Ens_is (s1 _), Ens_is (s2 _), ne_sent, hsp, e2]
        | b :: c :: r, _, _ =>
          have n1 : ¬ ((r.length : Int) + 1 + 1 + 1 = 1) := by omega
          have n2 : ¬ ((r.length : Int) + 1 + 1 + 1 = 2) := by omega
          rw [papB_long]
          simp [m__law_is_paper, b__law_is_paper, startE, isiD, D.tyn, askTys, isiB, sa, sp, n1, n2]
      · have hn : ∀ y, a ≠ .str y := fun y e => hs ⟨y, e⟩
        rw [papB_nstr hn]
        have ti : isiB (tn a) "str" = false := by
          cases a <;> first | (cases ha; done) | rfl | exact absurd rfl (hn _)
        simp [m__law_is_paper, b__law_is_paper, startE, od_isi h, od_isi ha, askTys, isiB, tn, ti]
        intro z
        exfalso
        cases a <;> first | exact absurd rfl (hn _) | (simp at z; done) | (cases ha; done)
  | _ => first | (cases h; done) | simp [m__law_is_paper, b__law_is_paper, startE, isiD, D.tyn, askTys, isiB, papB])
theorem hpap_eq {M K : Ch} {d : D} (hM : ChOk M) (hK : ChOk K) (h : od d = true) (hb : ib 200 d = true) : m_charts_holds [chD M, chD K, d] S = .ok (.bl (papB M K d)) S := ens_eq (by
  have n1' := fun S => need_eq (S := S) hM
  have n2' := fun S => need_eq (S := S) hK
  have pe := fun S => parting_eq (S := S) hM hK
  have ea : (partD M K).isNon = alikeB M K := by
    have e := partS_none (N := K) hM
    unfold partD
    cases q : partS M K with
    | none => exact (alikeB_iff.2 (e.1 q)).symm
    | some p =>
      cases z : alikeB M K with
      | false => rfl
      | true =>
        have := e.2 (alikeB_iff.1 z)
        rw [q] at this; cases this
  cases d with
  | tup l =>
    obtain ⟨ho, hl⟩ := od_tup.mp h
    have hB := ib_tup.mp hb
    cases l with
    | nil => simp [m_charts_holds, b_charts_holds, startE, isiD, D.tyn, askTys, isiB, papB, Ens_is (n1' _), Ens_is (n2' _)]
    | cons a l =>
      have ha := ho a (by simp)
      have iw := fun S => isword_od (S := S) ha
      by_cases hs : ∃ y, a = .str y
      · obtain ⟨y, rfl⟩ := hs
        have hy : SeqAt.shaped (.str y) = true := ha
        have sa : ∀ S, eqD S (.str y) (.str "alike") = _ := fun S => eq_word hy sh_alike
        match l, ho, hB with
        | [], _, _ =>
          simp [m_charts_holds, b_charts_holds, startE, isiD, D.tyn, askTys, isiB, sa, Ens_is (n1' _), Ens_is (n2' _), Ens_is (pe _), Ens_is (iw _), ea, papB, isWd]
          by_cases q : y = "alike" <;> simp [q]
        | [b], ho, hB =>
          have hbo := ho b (by simp)
          have hbB := hB b (by simp)
          simp [m_charts_holds, b_charts_holds, startE, isiD, D.tyn, askTys, isiB, sa, Ens_is (n1' _), Ens_is (n2' _), Ens_is (pe _), Ens_is (iw _), Ens_is (isspot_od hbo), isWd]
          have na : y = "alike" → papB M K (.tup [.str y, b]) = false := fun e => by
            subst e
            unfold papB
            split <;> first | rfl | (rename_i e; simp at e; done) | (rename_i e; simp at e; obtain ⟨rfl, rfl⟩ := e; rfl)
          have np : ¬ y = "parted" → papB M K (.tup [.str y, b]) = false := fun e2 => by
            cases hsb : spB b with
            | false => exact papB_not hsb
            | true =>
              obtain ⟨p, q, r, hpq, _⟩ := sp_parts hsb hbB
              rw [papB_two hpq]
              simp [e2]
          refine ⟨fun _ e2 => np e2, fun e1 => ⟨na, fun e2 => ⟨fun e3 => papB_not e3, fun e3 => ?_⟩⟩⟩
          have e4 : y = "parted" := e1.resolve_left e2
          obtain ⟨p, q, r, rfl, bp, bq, br, hsp⟩ := sp_parts e3 hbB
          have s1 := fun S => sent_eq (S := S) (x := p) (y := q) (w := r) (j := 200) (by decide) hM
          have s2 := fun S => sent_eq (S := S) (x := p) (y := q) (w := r) (j := 200) (by decide) hK
          rw [papB_two rfl]
          simp [Ens_is (s1 _), Ens_is (s2 _), ne_sent, hsp, e4]
        | b :: c :: r, _, _ =>
          have n1 : ¬ ((r.length : Int) + 1 + 1 + 1 = 1) := by omega
          have n2 : ¬ ((r.length : Int) + 1 + 1 + 1 = 2) := by omega
          rw [papB_long]
          simp [m_charts_holds, b_charts_holds, startE, isiD, D.tyn, askTys, isiB, sa, Ens_is (n1' _), Ens_is (n2' _), Ens_is (iw _), n1, n2, isWd]
      · have hn : ∀ y, a ≠ .str y := fun y e => hs ⟨y, e⟩
        rw [papB_nstr hn]
        have hw : ∀ x, isWd x a = false := fun x => by
          cases a <;> first | rfl | exact absurd rfl (hn _)
        simp [m_charts_holds, b_charts_holds, startE, isiD, D.tyn, askTys, isiB, Ens_is (n1' _), Ens_is (n2' _), Ens_is (iw _), hw]
  | _ => first | (cases h; done) | simp [m_charts_holds, b_charts_holds, startE, isiD, D.tyn, askTys, isiB, papB, Ens_is (n1' _), Ens_is (n2' _)])
end
end K31

namespace K31
set_option exponentiation.threshold 2000
open PySem PySem.Spec PyProof.Rows L2 Mi
section
variable {S T : Sto} {N : Nat}
/-! ### values that may be papers -/
abbrev Tv (d : D) : Prop := Ev 200 (kk 4) 6 d
theorem inn_tv {n : Nat} {d : D} (h : inn n d = true) (hn : n ≤ 4) : Tv d := by
  have := inn_ev n d h
  have k : ∀ a b : Nat, a ≤ b → kk a ≤ kk b := fun a b h => by
    induction h with
    | refl => exact Nat.le_refl _
    | step _ ih => simp only [kk]; omega
  exact this.up (k _ _ hn) (by omega)
theorem inn_int {n : Nat} {i : Int} (h : -1000000000000000 ≤ i ∧ i ≤ 1000000000000000) : inn (n + 1) (.int i) = true := by
  simp only [inn, decide_eq_true_eq]
  have : (10 : Nat) ^ 15 < 2 ^ 60 := by decide
  omega
theorem inn_t3 {n : Nat} {x y w : Int} (hx : inn n (.int x) = true) (hy : inn n (.int y) = true) (hw : inn n (.int w) = true) : inn (n + 1) (t3 x y w) = true := by
  simp [inn, hx, hy, hw]
theorem inn_sp {d : D} (h : SpOk 1000000 d) : inn 2 d = true := by
  obtain ⟨x, y, w, rfl, h1, h2, h3, h4, h5, h6, _⟩ := h
  exact inn_t3 (inn_int (by omega)) (inn_int (by omega)) (inn_int (by omega))
theorem inn_parted {d : D} (h : inn 2 d = true) : inn 3 (.tup [.str "parted", d]) = true := by
  have e : inn 2 (.str "parted") = true := by decide +kernel
  simp [inn] at h ⊢
  exact h
theorem tv_one {d : D} (h : evb 200 300 3 d = true) : Tv d := (ev_iff.mp h).up (kk_up _) (by decide)
/-- a row of a few values that are alike in size -/
theorem tv_row {l : List D} {k m : Nat} (h : ∀ d ∈ l, Ev 200 k m d) (hl : l.length ≤ 20) (hk : (k + 2) * 20 + 3 ≤ kk 4) (hm : m + 1 ≤ 6) : Tv (.tup l) := (ev_tup h hl (by decide)).up hk hm
theorem tv_rowL {l : List D} {k m : Nat} (h : ∀ d ∈ l, Ev 200 k m d) (hl : l.length ≤ 20) (hk : (k + 2) * 20 + 3 ≤ kk 4) (hm : m + 1 ≤ 6) : Tv (.lst l) := (ev_lst h hl (by decide)).up hk hm
theorem ev_word {k m : Nat} {x : Str} (h : evb 200 300 0 (.str x) = true) (hk : 300 ≤ k) : Ev 200 k m (.str x) := (ev_iff.mp h).up hk (Nat.zero_le _)
/-- what is told -/
theorem told_inn {M K : Ch} (h : ChOk M) : Tv (toldD M K) := by
  unfold toldD
  cases q : partS M K with
  | none => exact tv_one (by decide +kernel)
  | some p =>
    obtain ⟨_, x, y, rfl, hx, hy⟩ := partS_some q
    have bf := farC_bd h
    have b7 := h.b7
    have b8 := h.b8
    have bx : Bd x 42 := by rcases hx with rfl | rfl <;> exact bd_lt (by decide) (by decide)
    have by_ : Bd y 42 := by rcases hy with rfl | rfl <;> exact bd_lt (by decide) (by decide)
    have c1 : Bd (M.2.2.1 * farC M + x) 85 := inferInstanceAs (Bd _ (20 + 22 + 42 + 1))
    have c2 : Bd (M.2.2.2.1 * farC M + y) 85 := inferInstanceAs (Bd _ (20 + 22 + 42 + 1))
    have e : ∀ i : Int, Bd i 85 → Ev 200 300 0 (.int i) := fun i b => (ev_int (m := 0) (by decide) (by decide) (Nat.lt_of_lt_of_le b.h (Nat.pow_le_pow_right (by decide) (by decide)) : i.natAbs < 2 ^ 200)).up (by decide) (Nat.le_refl _)
    have e3 : Ev 200 (kk 1) 1 (vD (spotC M x y)) := ev_tup (n := 12) (fun d hd => by
      simp only [List.mem_cons, List.not_mem_nil, or_false] at hd
      rcases hd with rfl | rfl | rfl
      · exact e _ c1
      · exact e _ c2
      · exact e _ (show Bd 1 85 from bd_lt (by decide) (by decide))) (by simp) (by decide)
    refine tv_row (k := kk 1) (m := 1) (fun d hd => ?_) (by simp) (by decide) (by decide)
    simp only [List.mem_cons, List.not_mem_nil, or_false] at hd
    rcases hd with rfl | rfl
    · exact ev_word (by decide +kernel) (by decide)
    · exact e3
theorem g31 {x y : Int} : g3 x y 1 = 1 := by
  have h1 := g3_le (x := x) (y := y) (w := 1) (by decide)
  have h2 := g3_pos (x := x) (y := y) (w := 1) (by decide)
  omega
theorem told_pap {M K : Ch} (h : ChOk M) : papB M K (toldD M K) = true := by
  unfold toldD
  cases q : partS M K with
  | none =>
    have := alikeB_iff.2 ((partS_none h).1 q)
    simp [papB, isWd, this]
  | some p =>
    obtain ⟨hp, x, y, rfl, hx, hy⟩ := partS_some q
    have hb := partB_iff.2 hp
    have hs : spB (vD (spotC M x y)) = true := spB_iff3.mpr ⟨_, _, _, rfl, (show (1 : Int) ≤ 1 by decide), g31⟩
    show (decide (("parted" : Str) = "parted") && (spB (vD (spotC M x y)) && partB M K (spotC M x y))) = true
    simp [hb, hs]
theorem told_word {M K : Ch} (h : ChOk M) : ∃ l, toldD M K = .tup l ∧ ∃ y, L2.atI l 0 = some (.str y) ∧ SeqAt.shaped (.str y) = true ∧ (decide (y = "alike")) = alikeB M K := by
  unfold toldD
  cases q : partS M K with
  | none =>
    have := alikeB_iff.2 ((partS_none h).1 q)
    exact ⟨_, rfl, "alike", by simp, sh_alike, by simp [this]⟩
  | some p =>
    have : alikeB M K = false := by
      cases z : alikeB M K with
      | false => rfl
      | true =>
        have := (partS_none h).2 (alikeB_iff.1 z)
        rw [q] at this; cases this
    exact ⟨_, rfl, "parted", by simp, sh_parted, by rw [this]; decide +kernel⟩
def TvL (a : D) : Prop := ∃ l, a = .lst l ∧ l.length ≤ 30 ∧ ∀ d ∈ l, Tv d
theorem things_made {M K : Ch} {told : D} (hM : Wt 1000000 M) (hMs : Sees M) (hK : Wt 1000000 K) (hKs : Sees K) (ht : Tv told) (h : DkP N T S) (hN : N + 300 ≤ 1000000000) :
    Ens (m__law_things [.loc 1, chD M, chD K, told] S) fun a S' => TvL a ∧ DkP (N + 300) T S' := by
  simp [m__law_things, b__law_things, startE]
  refine (pick_ok h (by omega) (by simp) (by simp)).mono ?_
  rintro a S1 ⟨ha, h1⟩
  obtain ⟨u, rfl, hu⟩ : ∃ u, a = .int u ∧ 1 ≤ u ∧ u ≤ 1000000 := by
    simp at ha
    rcases ha with rfl | rfl | rfl <;> exact ⟨_, rfl, by decide, by decide⟩
  refine (anyspot_ok h1 (by omega) hu.1 (by omega)).mono ?_
  rintro s1 S2 ⟨hs1, h2⟩
  have hs1 := hs1.up (M' := 1000000) hu.2
  refine (border_made hM hMs h2 (by omega)).mono ?_
  rintro s2 S3 ⟨hs2, h3⟩
  refine (border_made hK hKs h3 (by omega)).mono ?_
  rintro s3 S4 ⟨hs3, h4⟩
  refine (anyspot_ok h4 (by omega) (by decide) (by decide)).mono ?_
  rintro a S5 ⟨ha, h5⟩
  obtain ⟨x, y, w, rfl, x0, x1, y0, y1, w0, w1, hg⟩ := ha
  have bw : Bd w 64 := bd_lt (by omega) (by omega)
  have f1 := fun S => lspot_eq (S := S) (x := 0) (y := y) (w := w) (m := 64) (by decide) (by omega)
  have f2 := fun S => lspot_eq (S := S) (x := x) (y := 0) (w := w) (m := 64) (by decide) (by omega)
  have f3 := fun S => lspot_eq (S := S) (x := x) (y := x) (w := w) (m := 64) (by decide) (by omega)
  simp [Ens_is (f1 _), Ens_is (f2 _), Ens_is (f3 _)]
  have sps : ∀ d ∈ [s1, s2, s3, spD3 0 y w, spD3 x 0 w, t3 0 0 1, spD3 x x w], SpOk 1000000 d := fun d hd => by
    simp only [List.mem_cons, List.not_mem_nil, or_false] at hd
    rcases hd with rfl | rfl | rfl | rfl | rfl | rfl | rfl
    · exact hs1
    · exact hs2
    · exact hs3
    · exact (spD3_ok (M := 9) (by omega) (by omega) (by omega) (by omega) (by omega) (by omega)).up (by decide)
    · exact (spD3_ok (M := 9) (by omega) (by omega) (by omega) (by omega) (by omega) (by omega)).up (by decide)
    · exact ⟨0, 0, 1, rfl, by decide, by decide, by decide, by decide, by decide, by decide, g31⟩
    · exact (spD3_ok (M := 9) (by omega) (by omega) (by omega) (by omega) (by omega) (by omega)).up (by decide)
  refine (odd_ok (n := 1) h5 (by omega) rfl).mono ?_
  rintro o S6 ⟨ho, h6⟩
  have ho : Tv o := ho.up (by decide) (by decide)
  generalize hsp : [s1, s2, s3, spD3 0 y w, spD3 x 0 w, t3 0 0 1, spD3 x x w] = spots at sps
  have spl : spots.length = 7 := by rw [← hsp]; rfl
  have spn : spots ≠ [] := by rw [← hsp]; simp
  have parted_tv : ∀ d ∈ spots, Tv (.tup [.str "parted", d]) := fun d hd => inn_tv (n := 3) (inn_parted (inn_sp (sps d hd))) (by decide)
  refine Ens.mono (P := fun a S' => (∃ l, a = l ∧ l.length ≤ 4 ∧ ∀ d ∈ l, Tv d) ∧ DkP (N + 210) T S') ?_ ?_
  · refine lc_inv (fun k acc S' => acc.length = k ∧ (∀ d ∈ acc, Tv d) ∧ DkP (N + 200 + k) T S') _ 0 _ _ ⟨rfl, by simp, h6.up (by omega)⟩ (fun _ _ _ _ _ _ => trivial) (fun i d' acc S1 _ hd' hi => ?_) (fun acc S1 hi => ?_)
    · obtain ⟨hl, hT, h7⟩ := hi
      have hi4 : i < 4 := by
        have := (List.getElem?_eq_some_iff.mp hd').1
        rwa [rangeD_length] at this
      simp [wipeE]
      refine (pickL_ok h7 (by omega) spn (by omega)).mono ?_
      rintro z S8 ⟨hz, h8⟩
      refine ⟨by omega, by omega, fun q hq => ?_, h8⟩
      rcases hq with hq | rfl
      · exact hT q hq
      · exact parted_tv z hz
    · obtain ⟨hl, hT, h7⟩ := hi
      rw [rangeD_length] at hl h7
      exact ⟨⟨acc, rfl, by omega, hT⟩, h7.up (by omega)⟩
  rintro _ S7 ⟨⟨l4, rfl, hl4, hT4⟩, h7⟩
  rw [addD_lst (by simp; omega)]
  simp only [R.of_some, Ens_ok]
  refine (pickL_ok h7 (by omega) spn (by omega)).mono ?_
  rintro s S8 ⟨hs, h8⟩
  have hi := inn_sp (sps s hs)
  obtain ⟨p, q, r, rfl, p0, p1, q0, q1, r0, r1, _⟩ := sps s hs
  have bp : Bd p 64 := bd_lt (by omega) (by omega)
  have bq : Bd q 64 := bd_lt (by omega) (by omega)
  have br : Bd r 64 := bd_lt (by omega) (by omega)
  simp [Ens_lc_cons, Ens_lc_nil, wipeE]
  rw [addD_lst (by simp; omega)]
  simp only [R.of_some, Ens_ok]
  refine (bent_ok 5 3 (.tup [.str "parted", t3 p q r]) _ _ h8 (by omega) (by decide) (inn_parted hi)).mono ?_
  rintro b S9 ⟨hb, h9⟩
  have hb : Tv b := hb
  rw [addD_lst (by simp; omega)]
  simp only [R.of_some, Ens_ok]
  refine ⟨⟨_, rfl, by simp; omega, fun d hd => ?_⟩, h9.up (by omega)⟩
  have e1 : ∀ (i : Int) m, -4000000 ≤ i ∧ i ≤ 4000000 → Ev 200 300 m (.int i) := fun i m hi => (ev_int (m := m) (by decide) (by decide) (by
    have : (2 : Nat) ^ 23 < 2 ^ 200 := by decide
    have : (2 : Nat) ^ 23 = 8388608 := by decide
    omega : i.natAbs < 2 ^ 200)).up (by decide) (Nat.le_refl _)
  have wd : ∀ (x : Str) m, evb 200 300 0 (.str x) = true → Ev 200 300 m (.str x) := fun x m h => ev_word h (Nat.le_refl _)
  have w1 := wd "parted" 1 (by decide +kernel)
  have w2 := wd "Parted" 1 (by decide +kernel)
  have w3 := wd "alike" 1 (by decide +kernel)
  have row3 : ∀ a b c : D, Ev 200 300 0 a → Ev 200 300 0 b → Ev 200 300 0 c → Ev 200 (kk 1) 1 (.tup [a, b, c]) ∧ Ev 200 (kk 1) 1 (.lst [a, b, c]) := fun a b c ha hb hc => by
    have k : ∀ d ∈ [a, b, c], Ev 200 300 0 d := fun d hd => by
      simp only [List.mem_cons, List.not_mem_nil, or_false] at hd
      rcases hd with rfl | rfl | rfl <;> assumption
    exact ⟨ev_tup (n := 12) k (by simp) (by decide), ev_lst (n := 12) k (by simp) (by decide)⟩
  have pr : ∀ l : List D, l.length ≤ 20 → (∀ d ∈ l, Ev 200 (kk 1) 1 d) → Tv (.tup l) := fun l hl h => tv_row (k := kk 1) (m := 1) h hl (by decide) (by decide)
  have up : ∀ {d : D}, Ev 200 300 1 d → Ev 200 (kk 1) 1 d := fun h => h.up (by decide) (Nat.le_refl _)
  have pr2 : ∀ a b : D, Ev 200 300 1 a → Ev 200 (kk 1) 1 b → Tv (.tup [a, b]) := fun a b ha hb => pr _ (by simp) fun d hd => by
    simp only [List.mem_cons, List.not_mem_nil, or_false] at hd
    rcases hd with rfl | rfl
    · exact up ha
    · exact hb
  have sp := (row3 _ _ _ (e1 p 0 (by omega)) (e1 q 0 (by omega)) (e1 r 0 (by omega)))
  simp only [List.mem_append, List.mem_cons, List.not_mem_nil, or_false] at hd
  rcases hd with ((rfl | rfl | rfl | rfl | rfl | rfl | rfl | hd) | (rfl | rfl | rfl)) | (rfl | rfl | rfl | rfl | rfl)
  · exact ht
  · exact tv_one (by decide +kernel)
  · exact tv_one (by decide +kernel)
  · exact tv_one (by decide +kernel)
  · exact tv_one (by decide +kernel)
  · exact tv_one (by decide +kernel)
  · exact ho
  · exact hT4 d hd
  · exact pr2 _ _ w1 (row3 _ _ _ (e1 _ 0 (by omega)) (e1 _ 0 (by omega)) (e1 _ 0 (by omega))).1
  · exact pr2 _ _ w1 (row3 _ _ _ (e1 _ 0 (by omega)) (e1 _ 0 (by omega)) (e1 _ 0 (by omega))).1
  · exact pr2 _ _ w1 sp.2
  · exact hb
  · exact pr _ (by simp) fun d hd => by
      simp only [List.mem_cons, List.not_mem_nil, or_false] at hd
      rcases hd with rfl | rfl | rfl
      · exact up w1
      · exact sp.1
      · exact up (e1 0 1 (by decide))
  · exact pr2 _ _ w2 sp.1
  · exact pr2 _ _ w3 sp.1
  · exact pr2 _ _ w1 (row3 _ _ _ (e1 _ 0 (by omega)) (e1 _ 0 (by omega)) (ev_iff.mp (by decide +kernel : evb 200 300 0 (.bl true) = true))).1
end
end K31

namespace K31
set_option exponentiation.threshold 2000
open PySem PySem.Spec PyProof.Rows L2 Mi
section
variable {S T : Sto} {N : Nat}
structure Two (M K : Ch) : Prop where
  m : Wt 1000000 M
  ms : Sees M
  k : Wt 1000000 K
  ks : Sees K
def SwP (d : D) (i : Nat) (x : List (Option D)) (S : Sto) (r : RS) : Prop := ∃ M K : Ch, Two M K ∧ r = .nx ([some d, some (.loc 1), some (.int (i : Nat)), some (chD M), some (chD K)] ++ x) S
theorem law_true : ∀ ns : List Int, ns.length ≤ 63 → ∀ d, (d = D.lst (ns.map D.int) ∨ d = D.wls (ns.map D.int)) → ∃ S, m_law [d] [] = .ok (.bl true) S := by
  intro ns hns d hd
  suffices h : Ens (m_law [d] []) fun a S => a = .bl true by
    obtain ⟨a, S, e, h⟩ := h.eq
    exact ⟨S, by rw [e, h]⟩
  unfold m_law
  simp [b_law, startE, -Ens_mIf, -EnsS_sIf]
  refine (deck_ok ns hns d hd).mono ?_
  rintro _ S0 ⟨ha, h0⟩
  subst ha
  try simp [-Ens_mIf, -EnsS_sIf]
  refine for_inv (fun k env S => DkP (k * 2000) [] S ∧ ∃ (l : List (Option D)), env = some d :: some (.loc 1) :: l ∧ l.length = 10) _ 0 _ _ ⟨by simpa using h0, _, rfl, rfl⟩ (fun _ _ _ _ _ _ => trivial) (fun i d' env S _ hd' hi => ?_) (fun env S hi => ?_)
  · obtain ⟨h2, x, e, hx⟩ := hi
    obtain ⟨hi3, ed⟩ := rng_get hd'
    simp at ed
    have hi4 : i < 4 := by
      have := (List.getElem?_eq_some_iff.mp hd').1
      rwa [rangeD_length] at this
    subst e ed
    match x, hx with
    | [x2, x3, x4, x5, x6, x7, x8, x9, x10, x11], _ =>
    simp [-Ens_mIf, -EnsS_sIf]
    refine (pick_ok h2 (by omega) (by simp) (by simp)).mono ?_
    rintro a S1 ⟨ha, h3⟩
    obtain ⟨u, rfl, hu⟩ : ∃ u, a = .int u ∧ 1 ≤ u ∧ u ≤ 1000000 := by
      simp at ha
      rcases ha with rfl | rfl | rfl | rfl | rfl <;> exact ⟨_, rfl, by decide, by decide⟩
    refine (chart_made h3 (by omega) hu.1 hu.2).mono ?_
    rintro _ S2 ⟨⟨M, rfl, hM0, hMs⟩, h4⟩
    have hM : Wt 1000000 M := fun n hn => by
      have := hM0 n hn
      omega
    refine (near_made hM hMs h4 (by omega)).mono ?_
    rintro _ S3 ⟨⟨K, rfl, hK, hKs⟩, h5⟩
    refine EnsS.mono (P := SwP d i [x5, x6, x7, x8, x9, x10, x11] S3) ?_ ?_
    · simp
      exact ⟨fun _ => ⟨K, M, ⟨hK, hKs, hM, hMs⟩, rfl⟩, fun _ => ⟨M, K, ⟨hM, hMs, hK, hKs⟩, rfl⟩⟩
    clear hM hMs hK hKs hM0 M K
    rintro _ ⟨M, K, hh, rfl⟩
    have hM := hh.m.ok hh.ms
    have hK := hh.k.ok hh.ks
    have je := fun S => judge_eq (S := S) hM hK
    have tT := told_inn (K := K) hM
    have tP := told_pap (K := K) hM
    have lp : ∀ d S, Tv d → m__law_is_paper [chD M, chD K, d] S = .ok (.bl (papB M K d)) S := fun d S h => lpap_eq hM hK h.od h.ib
    have hp : ∀ d S, Tv d → m_charts_holds [chD M, chD K, d] S = .ok (.bl (papB M K d)) S := fun d S h => hpap_eq hM hK h.od h.ib
    have ea := fun S => are_eq (S := S) hM hK
    have rp : ∀ d S, Tv d → reprD S [d] = some (.str d.pd.shown) := fun d S h => h.repr (by decide) (by decide)
    obtain ⟨tl, et, y, e0, hy, ey⟩ := told_word (K := K) hM
    rw [et] at je tT tP
    have ix : ∀ S, ixD S (.tup tl) (.int 0) = some (.str y) := fun S => e0
    have eqw : ∀ S, eqD S (.str y) (.str "alike") = some (.bl (decide (y = "alike"))) := fun S => eq_word hy sh_alike
    simp only [List.cons_append, List.nil_append, then_nx]
    rw [EnsS_sSeq]
    refine EnsS.mono (P := fun r => r = .nx [some d, some (.loc 1), some (.int (i : Nat)), some (chD M), some (chD K), some (.tup tl), x6, x7, x8, x9, x10, x11] S3) ?_ ?_
    · simp [Ens_is (je _), gPerm]
    rintro _ rfl
    rw [then_nx]
    simp [Ens_is (lp _ _ tT), tP, ix, eqw, Ens_is (ea _), ey, rp _ _ tT, -EnsS_sFor]
    have nb : ∀ (b : Bool) S, neD S (.bl b) (.bl b) = some (.bl false) := fun b S => ne_of_eq (c := true) (by rw [eqD_bl]; simp)
    simp [nb, -EnsS_sFor]
    rw [EnsS_sFor, Ens_iEnA]
    simp only [Ens_aCons, Ens_aNil, Ens_mOp, Ens_mSl, Ens_mCall, mVar_zero, mVar_succ, Ens_ok, Ens_oNone, Ens_oSome, mC_ok, Ens_mLst]
    simp
    refine (things_made hh.m hh.ms hh.k hh.ks tT h5 (by omega)).mono ?_
    rintro _ S4 ⟨⟨l, rfl, hl, hT⟩, h6⟩
    refine (shuf_ok h6 (by omega) (by omega) (fun d hd n => (hT d hd).lo n)).mono ?_
    rintro _ S5 ⟨l', rfl, hp', h7⟩
    have e6 : Mi.cutD l' none (some 6) = l'.take 6 := cut_take 6
    have hT' : ∀ d ∈ l'.take 6 ++ [.tup tl, .tup [.str "alike"]], Tv d := fun d hd => by
      rcases List.mem_append.mp hd with z | z
      · exact hT d (hp'.mem_iff.mp (List.mem_of_mem_take z))
      · simp only [List.mem_cons, List.not_mem_nil, or_false] at z
        rcases z with rfl | rfl
        · exact tT
        · exact tv_one (by decide +kernel)
    simp [e6]
    rw [addD_lst (by simp; omega)]
    simp only [R.of_some, Ens_ok]
    generalize l'.take 6 ++ [.tup tl, .tup [.str "alike"]] = L at hT'
    rw [enR_lst, Ens_ok]
    refine for_inv (fun k env S => S = S5 ∧ ∃ z : List (Option D), env = [some d, some (.loc 1), some (.int (i : Nat)), some (chD M), some (chD K), some (.tup tl), some (.str (D.tup tl).pd.shown)] ++ z ∧ z.length = 5) _ 0 _ _ ⟨rfl, _, rfl, rfl⟩ (fun _ _ _ _ _ _ => trivial) (fun j dj env S _ hdj hj => ?_) (fun env S hj => ?_)
    · obtain ⟨rfl, z, rfl, hz⟩ := hj
      obtain ⟨t, ht, rfl⟩ := enum_get hdj
      have tt := hT' t (List.mem_of_getElem? ht)
      match z, hz with
      | [z7, z8, z9, z10, z11], _ =>
      have lpt := fun S => lp t S tt
      have hpt := fun S => hp t S tt
      have rpt := fun S => rp t S tt
      have ib : ∀ (b : Bool) S, m__law_is_bool [.bl b, .bl b] S = .ok (.bl true) S := fun b S => isbool_ok
      have md : ∀ S, modD S (.int (j : Int)) (.int 2) = some (.int ((j : Int).fmod 2)) := fun S => modD_int (by decide)
      simp [Ens_is (lpt _), Ens_is (hpt _), rpt, gPerm, md, Ens_is (ib _ _), neS_self]
    · obtain ⟨rfl, z, rfl, hz⟩ := hj
      match z, hz with
      | [z7, z8, z9, z10, z11], _ =>
      simp [Ens_is (je _), rp _ _ tT, neS_self]
      exact h7.up (by omega)
  · obtain ⟨h2, x, e, hx⟩ := hi
    subst e
    simp
end
end K31

set_option maxHeartbeats 0
open PySem PySem.Spec PyProof.Rows L2 Mi
namespace K31
theorem facts {K : PySem.W.Frag} {h : Heap} {mg : Str → Option Value} (X : K.In h) (G : h.Ns mainGlobals mg) (c : He.SaysD fa fn K) : Fx K mg where
  g_is_int := ⟨_, (c.def_ 0 rfl).choose, ⟨(c.def_ 0 rfl).choose_spec, He.glo_ok X G (c.fact 0 (f := .glo "is_int") rfl)⟩⟩
  g_is_from := ⟨_, (c.def_ 1 rfl).choose, ⟨(c.def_ 1 rfl).choose_spec, He.glo_ok X G (c.fact 1 (f := .glo "is_from") rfl)⟩⟩
  g_is_tuple := ⟨_, (c.def_ 2 rfl).choose, ⟨(c.def_ 2 rfl).choose_spec, He.glo_ok X G (c.fact 2 (f := .glo "is_tuple") rfl)⟩⟩
  g_is_word := ⟨_, (c.def_ 3 rfl).choose, ⟨(c.def_ 3 rfl).choose_spec, He.glo_ok X G (c.fact 3 (f := .glo "is_word") rfl)⟩⟩
  g_common_part := ⟨_, (c.def_ 4 rfl).choose, ⟨(c.def_ 4 rfl).choose_spec, He.glo_ok X G (c.fact 4 (f := .glo "common_part") rfl)⟩⟩
  g_is_spot_value := ⟨_, (c.def_ 5 rfl).choose, ⟨(c.def_ 5 rfl).choose_spec, He.glo_ok X G (c.fact 5 (f := .glo "is_spot_value") rfl)⟩⟩
  g_lowest_spot := ⟨_, (c.def_ 6 rfl).choose, ⟨(c.def_ 6 rfl).choose_spec, He.glo_ok X G (c.fact 6 (f := .glo "lowest_spot") rfl)⟩⟩
  g_cross := ⟨_, (c.def_ 7 rfl).choose, ⟨(c.def_ 7 rfl).choose_spec, He.glo_ok X G (c.fact 7 (f := .glo "cross") rfl)⟩⟩
  g_dot := ⟨_, (c.def_ 8 rfl).choose, ⟨(c.def_ 8 rfl).choose_spec, He.glo_ok X G (c.fact 8 (f := .glo "dot") rfl)⟩⟩
  g_determinant := ⟨_, (c.def_ 9 rfl).choose, ⟨(c.def_ 9 rfl).choose_spec, He.glo_ok X G (c.fact 9 (f := .glo "determinant") rfl)⟩⟩
  g_sees_something := ⟨_, (c.def_ 10 rfl).choose, ⟨(c.def_ 10 rfl).choose_spec, He.glo_ok X G (c.fact 10 (f := .glo "sees_something") rfl)⟩⟩
  g_is_chart_value := ⟨_, (c.def_ 11 rfl).choose, ⟨(c.def_ 11 rfl).choose_spec, He.glo_ok X G (c.fact 11 (f := .glo "is_chart_value") rfl)⟩⟩
  g_need_chart := ⟨_, (c.def_ 12 rfl).choose, ⟨(c.def_ 12 rfl).choose_spec, He.glo_ok X G (c.fact 12 (f := .glo "need_chart") rfl)⟩⟩
  g_numbers_of := ⟨_, (c.def_ 13 rfl).choose, ⟨(c.def_ 13 rfl).choose_spec, He.glo_ok X G (c.fact 13 (f := .glo "numbers_of") rfl)⟩⟩
  g_sent_to := ⟨_, (c.def_ 14 rfl).choose, ⟨(c.def_ 14 rfl).choose_spec, He.glo_ok X G (c.fact 14 (f := .glo "sent_to") rfl)⟩⟩
  g_parting_spot := ⟨_, (c.def_ 15 rfl).choose, ⟨(c.def_ 15 rfl).choose_spec, He.glo_ok X G (c.fact 15 (f := .glo "parting_spot") rfl)⟩⟩
  g_judge_charts := ⟨_, (c.def_ 16 rfl).choose, ⟨(c.def_ 16 rfl).choose_spec, He.glo_ok X G (c.fact 16 (f := .glo "judge_charts") rfl)⟩⟩
  g_charts_holds := ⟨_, (c.def_ 17 rfl).choose, ⟨(c.def_ 17 rfl).choose_spec, He.glo_ok X G (c.fact 17 (f := .glo "charts_holds") rfl)⟩⟩
  g__law_deck := ⟨_, (c.def_ 18 rfl).choose, ⟨(c.def_ 18 rfl).choose_spec, He.glo_ok X G (c.fact 18 (f := .glo "_law_deck") rfl)⟩⟩
  g__law_draw := ⟨_, (c.def_ 19 rfl).choose, ⟨(c.def_ 19 rfl).choose_spec, He.glo_ok X G (c.fact 19 (f := .glo "_law_draw") rfl)⟩⟩
  g__law_pick := ⟨_, (c.def_ 20 rfl).choose, ⟨(c.def_ 20 rfl).choose_spec, He.glo_ok X G (c.fact 20 (f := .glo "_law_pick") rfl)⟩⟩
  g__law_shuffled := ⟨_, (c.def_ 21 rfl).choose, ⟨(c.def_ 21 rfl).choose_spec, He.glo_ok X G (c.fact 21 (f := .glo "_law_shuffled") rfl)⟩⟩
  g__law_far := ⟨_, (c.def_ 22 rfl).choose, ⟨(c.def_ 22 rfl).choose_spec, He.glo_ok X G (c.fact 22 (f := .glo "_law_far") rfl)⟩⟩
  g__law_is_bool := ⟨_, (c.def_ 23 rfl).choose, ⟨(c.def_ 23 rfl).choose_spec, He.glo_ok X G (c.fact 23 (f := .glo "_law_is_bool") rfl)⟩⟩
  g__law_gcd := ⟨_, (c.def_ 24 rfl).choose, ⟨(c.def_ 24 rfl).choose_spec, He.glo_ok X G (c.fact 24 (f := .glo "_law_gcd") rfl)⟩⟩
  g__law_spot := ⟨_, (c.def_ 25 rfl).choose, ⟨(c.def_ 25 rfl).choose_spec, He.glo_ok X G (c.fact 25 (f := .glo "_law_spot") rfl)⟩⟩
  g__law_is_int := ⟨_, (c.def_ 26 rfl).choose, ⟨(c.def_ 26 rfl).choose_spec, He.glo_ok X G (c.fact 26 (f := .glo "_law_is_int") rfl)⟩⟩
  g__law_is_spot := ⟨_, (c.def_ 27 rfl).choose, ⟨(c.def_ 27 rfl).choose_spec, He.glo_ok X G (c.fact 27 (f := .glo "_law_is_spot") rfl)⟩⟩
  g__law_odd := ⟨_, (c.def_ 28 rfl).choose, ⟨(c.def_ 28 rfl).choose_spec, He.glo_ok X G (c.fact 28 (f := .glo "_law_odd") rfl)⟩⟩
  g__law_bent := ⟨_, (c.def_ 29 rfl).choose, ⟨(c.def_ 29 rfl).choose_spec, He.glo_ok X G (c.fact 29 (f := .glo "_law_bent") rfl)⟩⟩
  g__law_number := ⟨_, (c.def_ 30 rfl).choose, ⟨(c.def_ 30 rfl).choose_spec, He.glo_ok X G (c.fact 30 (f := .glo "_law_number") rfl)⟩⟩
  g__law_any_spot := ⟨_, (c.def_ 31 rfl).choose, ⟨(c.def_ 31 rfl).choose_spec, He.glo_ok X G (c.fact 31 (f := .glo "_law_any_spot") rfl)⟩⟩
  g__law_is_within := ⟨_, (c.def_ 32 rfl).choose, ⟨(c.def_ 32 rfl).choose_spec, He.glo_ok X G (c.fact 32 (f := .glo "_law_is_within") rfl)⟩⟩
  g__law_det := ⟨_, (c.def_ 33 rfl).choose, ⟨(c.def_ 33 rfl).choose_spec, He.glo_ok X G (c.fact 33 (f := .glo "_law_det") rfl)⟩⟩
  g__law_is_chart := ⟨_, (c.def_ 34 rfl).choose, ⟨(c.def_ 34 rfl).choose_spec, He.glo_ok X G (c.fact 34 (f := .glo "_law_is_chart") rfl)⟩⟩
  g__law_chart := ⟨_, (c.def_ 35 rfl).choose, ⟨(c.def_ 35 rfl).choose_spec, He.glo_ok X G (c.fact 35 (f := .glo "_law_chart") rfl)⟩⟩
  g__law_numbers := ⟨_, (c.def_ 36 rfl).choose, ⟨(c.def_ 36 rfl).choose_spec, He.glo_ok X G (c.fact 36 (f := .glo "_law_numbers") rfl)⟩⟩
  g__law_sent := ⟨_, (c.def_ 37 rfl).choose, ⟨(c.def_ 37 rfl).choose_spec, He.glo_ok X G (c.fact 37 (f := .glo "_law_sent") rfl)⟩⟩
  g__law_lowest := ⟨_, (c.def_ 38 rfl).choose, ⟨(c.def_ 38 rfl).choose_spec, He.glo_ok X G (c.fact 38 (f := .glo "_law_lowest") rfl)⟩⟩
  g__law_are_small := ⟨_, (c.def_ 39 rfl).choose, ⟨(c.def_ 39 rfl).choose_spec, He.glo_ok X G (c.fact 39 (f := .glo "_law_are_small") rfl)⟩⟩
  g__law_border_spot := ⟨_, (c.def_ 40 rfl).choose, ⟨(c.def_ 40 rfl).choose_spec, He.glo_ok X G (c.fact 40 (f := .glo "_law_border_spot") rfl)⟩⟩
  g__law_are_alike := ⟨_, (c.def_ 41 rfl).choose, ⟨(c.def_ 41 rfl).choose_spec, He.glo_ok X G (c.fact 41 (f := .glo "_law_are_alike") rfl)⟩⟩
  g__law_is_paper := ⟨_, (c.def_ 42 rfl).choose, ⟨(c.def_ 42 rfl).choose_spec, He.glo_ok X G (c.fact 42 (f := .glo "_law_is_paper") rfl)⟩⟩
  g__law_scaled := ⟨_, (c.def_ 43 rfl).choose, ⟨(c.def_ 43 rfl).choose_spec, He.glo_ok X G (c.fact 43 (f := .glo "_law_scaled") rfl)⟩⟩
  g__law_near_chart := ⟨_, (c.def_ 44 rfl).choose, ⟨(c.def_ 44 rfl).choose_spec, He.glo_ok X G (c.fact 44 (f := .glo "_law_near_chart") rfl)⟩⟩
  g__law_things := ⟨_, (c.def_ 45 rfl).choose, ⟨(c.def_ 45 rfl).choose_spec, He.glo_ok X G (c.fact 45 (f := .glo "_law_things") rfl)⟩⟩
  g_law := ⟨_, (c.def_ 46 rfl).choose, ⟨(c.def_ 46 rfl).choose_spec, He.glo_ok X G (c.fact 46 (f := .glo "law") rfl)⟩⟩
  n_abs := He.free_ok X G (c.fact 47 (f := .free "abs") rfl)
  n_all := He.free_ok X G (c.fact 48 (f := .free "all") rfl)
  n_bool := He.free_ok X G (c.fact 49 (f := .free "bool") rfl)
  n_enumerate := He.free_ok X G (c.fact 50 (f := .free "enumerate") rfl)
  n_int := He.free_ok X G (c.fact 51 (f := .free "int") rfl)
  n_isinstance := He.free_ok X G (c.fact 52 (f := .free "isinstance") rfl)
  n_len := He.free_ok X G (c.fact 53 (f := .free "len") rfl)
  n_list := He.free_ok X G (c.fact 54 (f := .free "list") rfl)
  n_max := He.free_ok X G (c.fact 55 (f := .free "max") rfl)
  n_min := He.free_ok X G (c.fact 56 (f := .free "min") rfl)
  n_range := He.free_ok X G (c.fact 57 (f := .free "range") rfl)
  n_repr := He.free_ok X G (c.fact 58 (f := .free "repr") rfl)
  n_str := He.free_ok X G (c.fact 59 (f := .free "str") rfl)
  n_tuple := He.free_ok X G (c.fact 60 (f := .free "tuple") rfl)
  n_zip := He.free_ok X G (c.fact 61 (f := .free "zip") rfl)
  v_ALIKE := He.str_ok X G (c.fact 62 (f := .str "ALIKE" "alike") rfl)
  v_PARTED := He.str_ok X G (c.fact 63 (f := .str "PARTED" "parted") rfl)
  v_SIZE := He.int_ok X G (c.fact 64 (f := .int "SIZE" 3) rfl)
end K31
open PySem PySem.W PySem.Calls PyProof.Rows
theorem PySem.Challenge.cw_everyscale_k31_whole_charts_alike_or_par_holds : PySem.Challenge.rw_everyscale_k31_whole_charts_alike_or_par.Holds := by
  w_on; o_law
  refine HandSHeadRun.head_any (r := OpenLaw.row PySem.Challenge.rw_everyscale_k31_whole_charts_alike_or_par) (q := view (OpenLaw.row PySem.Challenge.rw_everyscale_k31_whole_charts_alike_or_par).prog [58]) (H := K31F.hk) (ob := K31F.ob) (M := 14000) (loose := K31F.loose) (d := HandSHeadRun.topDef (OpenLaw.row PySem.Challenge.rw_everyscale_k31_whole_charts_alike_or_par).prog 58) (kwd := []) K31F.ob_eq
    (by kernel_rfl) (fun s => by kernel_rfl) K31F.run (by kernel_rfl) (by kernel_rfl) (by kernel_rfl) (by rfl) (by first | assumption | decide +kernel) (by decide +kernel) ⟨rfl, rfl, rfl, rfl, rfl, by decide +kernel⟩ ?hw ?hc
  case hw => w_witness2
  case hc =>
    refine Mi.walk_G (l := PySem.Challenge.rw_everyscale_k31_whole_charts_alike_or_par) (n := 63) (k := 11) (x := "script") (CX := L2.CX0) rfl (by decide) (by kernel_rfl) ⟨rfl, by decide, by decide⟩ ?F (fun _ _ _ _ z => z)
    intro w mg fa h Y G hmg0
    obtain ⟨K, KX, c⟩ := Y
    have hmg : mg ("law" : PySem.Str) = some (.ref fa) := by
      have e : (HandSHeadRun.topDef (OpenLaw.row PySem.Challenge.rw_everyscale_k31_whole_charts_alike_or_par).prog 58).name = ("law" : PySem.Str) := by kernel_rfl
      rw [← e]
      exact hmg0
    have fx := K31.facts KX G c
    obtain ⟨f, fd, G1⟩ := fx.g_law
    have ef := G1.gl.symm.trans hmg
    cases ef
    have b := FunD.bindsA (ps := ["script"]) G1.fn K31.bd_law
    refine ⟨K, fd, Mi.spNo (Mi.spD K 1 K31.m_law), KX, fun s v => b s [v] rfl, fun H a ns hl _ hS => Mi.law_sp K31.law_true H a ns hl hS, fun base _ _ => ?_⟩
    obtain ⟨f2, fd2, G2, F2⟩ := (K31.ok_law (P := (PySem.Challenge.rw_everyscale_k31_whole_charts_alike_or_par).prog) (w := w) (base := base) fx).ex
    have e1 := G1.gl.symm.trans G2.gl
    cases e1
    have e2 := Mi.fdEq G1.fn G2.fn
    subst e2
    exact Mi.no_exc F2
