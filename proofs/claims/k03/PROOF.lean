import PyProof.Rows.All
import Wide.All
import OpenK.AllK
import Wide.FinOn
import HandS.ForMost
import HandS.ForExc
import HandS.Wide
import HandS.TupAny
import HandS.IsInst
import HandS.Deep
import PyProof.Rows.RuleB_pow
import HandS.Zip
import HandS.Defaults
import HandS.Style
import HandS.Strs
import HandS.SetFor
import HandS.More
import HandS.Remove
import HandS.Iter
import HandS.Small
import HandS.Dict
import PyProof.CallFns
import HandS.RaiseMore
import HandS.MapJoin
import HandS.TryMany
import HandS.ExcOwn
import HandS.ExcIs
import PyProof.P3In
import PyProof.EqKinds
import PyProof.FactsAll.dict
import PyProof.FactsAll.subtypes
import KE.SortData
import KE.GoesMore
import HandS.DictComp
import PySem.Challenge.RW_hitlog_k03_replays
set_option Elab.async false
set_option linter.all false
set_option maxRecDepth 100000
/-! Dn1: data, what represents them, environments, moves. -/
namespace Dn
open PySem PySem.Spec L2

/-- data: lst, dic: frozen; own, odic: owned by whoever holds them; bor i: what stands in slot i -/
inductive D where
  | non | bl (b : Bool) | int (i : Int) | str (x : Str)
  | tup (xs : List D) | lst (xs : List D) | own (xs : List D)
  | dic (ks : List Key) (vs : List D) | odic (ks : List Key) (vs : List D)
  | scr (xs : List D)
  | bor (i : Nat)
  | exc (c : Str) (ns : List Str) (vs : List D)

mutual
/-- no owned part, no borrowed one -/
def plain : D → Bool
  | .tup xs => plainL xs
  | .lst xs => plainL xs
  | .dic _ vs => plainL vs
  | .own _ => false
  | .odic _ _ => false
  | .scr xs => plainL xs
  | .bor _ => false
  | .exc _ _ vs => plainL vs
  | .non => true
  | .bl _ => true
  | .int _ => true
  | .str _ => true
def plainL : List D → Bool
  | [] => true
  | d :: ds => plain d && plainL ds
end
mutual
/-- nothing borrowed -/
def noBor : D → Bool
  | .tup xs => noBorL xs
  | .lst xs => noBorL xs
  | .dic _ vs => noBorL vs
  | .own xs => noBorL xs
  | .odic _ vs => noBorL vs
  | .scr xs => noBorL xs
  | .bor _ => false
  | .exc _ _ vs => noBorL vs
  | .non => true
  | .bl _ => true
  | .int _ => true
  | .str _ => true
def noBorL : List D → Bool
  | [] => true
  | d :: ds => noBor d && noBorL ds
end
mutual
/-- no frozen list, no frozen dict -/
def noLst : D → Bool
  | .tup xs => noLstL xs
  | .lst _ => false
  | .dic _ _ => false
  | .own xs => noLstL xs
  | .odic _ vs => noLstL vs
  | .scr xs => noLstL xs
  | .bor _ => true
  | .exc _ _ vs => noLstL vs
  | .non => true
  | .bl _ => true
  | .int _ => true
  | .str _ => true
def noLstL : List D → Bool
  | [] => true
  | d :: ds => noLst d && noLstL ds
end
mutual
/-- frozen -/
def frz : D → D
  | .tup xs => .tup (frzL xs)
  | .lst xs => .lst (frzL xs)
  | .dic ks vs => .dic ks (frzL vs)
  | .own xs => .lst (frzL xs)
  | .odic ks vs => .dic ks (frzL vs)
  | .scr xs => .scr (frzL xs)
  | .bor i => .bor i
  | .exc c ns vs => .exc c ns (frzL vs)
  | .non => .non
  | .bl b => .bl b
  | .int i => .int i
  | .str x => .str x
def frzL : List D → List D
  | [] => []
  | d :: ds => frz d :: frzL ds
end
mutual
theorem frz_plain : ∀ d, plain d = true → frz d = d
  | .tup xs, h => by rw [frz, frzL_plain xs (by simpa [plain] using h)]
  | .lst xs, h => by rw [frz, frzL_plain xs (by simpa [plain] using h)]
  | .scr xs, h => by rw [frz, frzL_plain xs (by simpa [plain] using h)]
  | .dic ks xs, h => by rw [frz, frzL_plain xs (by simpa [plain] using h)]
  | .exc c ns xs, h => by rw [frz, frzL_plain xs (by simpa [plain] using h)]
  | .own _, h => by simp [plain] at h
  | .odic _ _, h => by simp [plain] at h
  | .bor _, h => by simp [plain] at h
  | .non, _ => rfl
  | .bl _, _ => rfl
  | .int _, _ => rfl
  | .str _, _ => rfl
theorem frzL_plain : ∀ ds, plainL ds = true → frzL ds = ds
  | [], _ => rfl
  | d :: ds, h => by
    simp only [plainL, Bool.and_eq_true] at h
    rw [frzL, frz_plain d h.1, frzL_plain ds h.2]
end
mutual
theorem plain_noBor : ∀ d, plain d = true → noBor d = true
  | .tup xs, h => by simpa [noBor] using plainL_noBor xs (by simpa [plain] using h)
  | .lst xs, h => by simpa [noBor] using plainL_noBor xs (by simpa [plain] using h)
  | .scr xs, h => by simpa [noBor] using plainL_noBor xs (by simpa [plain] using h)
  | .dic ks xs, h => by simpa [noBor] using plainL_noBor xs (by simpa [plain] using h)
  | .exc c ns xs, h => by simpa [noBor] using plainL_noBor xs (by simpa [plain] using h)
  | .own _, h => by simp [plain] at h
  | .odic _ _, h => by simp [plain] at h
  | .bor _, h => by simp [plain] at h
  | .non, _ => rfl
  | .bl _, _ => rfl
  | .int _, _ => rfl
  | .str _, _ => rfl
theorem plainL_noBor : ∀ ds, plainL ds = true → noBorL ds = true
  | [], _ => rfl
  | d :: ds, h => by
    simp only [plainL, Bool.and_eq_true] at h
    simp only [noBorL, Bool.and_eq_true]
    exact ⟨plain_noBor d h.1, plainL_noBor ds h.2⟩
end
mutual
theorem plain_frz : ∀ d, noBor d = true → plain (frz d) = true
  | .tup xs, h => by simpa [plain, frz] using plainL_frz xs (by simpa [noBor] using h)
  | .lst xs, h => by simpa [plain, frz] using plainL_frz xs (by simpa [noBor] using h)
  | .scr xs, h => by simpa [plain, frz] using plainL_frz xs (by simpa [noBor] using h)
  | .dic ks xs, h => by simpa [plain, frz] using plainL_frz xs (by simpa [noBor] using h)
  | .own xs, h => by simpa [plain, frz] using plainL_frz xs (by simpa [noBor] using h)
  | .odic ks xs, h => by simpa [plain, frz] using plainL_frz xs (by simpa [noBor] using h)
  | .exc c ns xs, h => by simpa [plain, frz] using plainL_frz xs (by simpa [noBor] using h)
  | .bor _, h => by simp [noBor] at h
  | .non, _ => rfl
  | .bl _, _ => rfl
  | .int _, _ => rfl
  | .str _, _ => rfl
theorem plainL_frz : ∀ ds, noBorL ds = true → plainL (frzL ds) = true
  | [], _ => rfl
  | d :: ds, h => by
    simp only [noBorL, Bool.and_eq_true] at h
    simp only [plainL, frzL, Bool.and_eq_true]
    exact ⟨plain_frz d h.1, plainL_frz ds h.2⟩
end

/-! ### what represents what -/
def ImL (S : Addr → Prop) (H : Hp) (a : Addr) (xs : List V) : Prop := ¬ S a ∧ H a = some (.lst xs)
/-- a list of the written part, or a locked one -/
def ScL (K : PySem.W.Frag) (S : Addr → Prop) (H : Hp) (a : Addr) (xs : List V) : Prop :=
  (¬ S a ∧ ∃ o, H a = some (.frz o (.lst xs))) ∨ ∃ (o : Obj) (its : Array Value) (n : Nat), K.lookup a = some o ∧ o.cls = .type "list" ∧ o.dict = none ∧ o.data = .seq its n ∧ its.size ≤ sizeLine ∧ Vals xs its.toList
def ImT (K : PySem.W.Frag) (S : Addr → Prop) (H : Hp) (a : Addr) (xs : List V) : Prop :=
  (¬ S a ∧ Rd H a (.tup xs)) ∨ ∃ (o : Obj) (its : Array Value) (n : Nat), K.lookup a = some o ∧ o.cls = .type "tuple" ∧ o.data = .seq its n ∧ its.size ≤ sizeLine ∧ Vals xs its.toList
def ImD (S : Addr → Prop) (H : Hp) (a : Addr) (ks : List Key) (vs : List V) : Prop := ¬ S a ∧ H a = some (.dK (ks.zip vs)) ∧ ks.length = vs.length
section
variable {K : PySem.W.Frag} {S S' : Addr → Prop} {H H' : Hp} {a : Addr} {xs : List V}
theorem ImL.sq (h : ImL S H a xs) : SqL K H a xs := .inl (.inl h.2)
theorem ScL.sq (h : ScL K S H a xs) : SqL K H a xs := h.elim (fun h => .inl (.inr h.2)) .inr
theorem ImT.sq (h : ImT K S H a xs) : SqT K H a xs := h.elim (fun h => .inl h.2) .inr
theorem rd_keep {u : HO} (h : Rd H a u) (k : ∀ o, H a = some o → H' a = some o) : Rd H' a u := h.elim (fun h => .inl (k _ h)) fun ⟨o, h⟩ => .inr ⟨o, k _ h⟩
theorem rd_there {u : HO} (h : Rd H a u) : H a ≠ none := fun e => by
  rcases h with h | ⟨o, h⟩ <;> rw [e] at h <;> cases h
end

mutual
inductive Ow (K : PySem.W.Frag) (mg : Str → Option Value) (S : Addr → Prop) (σ : St) (H : Hp) : List Addr → V → D → Prop
  | non : Ow K mg S σ H [] .non .non
  | bl (b : Bool) : Ow K mg S σ H [] (.bl b) (.bl b)
  | int (i : Int) : Ow K mg S σ H [] (.int i) (.int i)
  | str (x : Str) : Ow K mg S σ H [] (.str x) (.str x)
  | tup {a : Addr} {A : List Addr} {vs : List V} {ds : List D} : ImT K S H a vs → OwL K mg S σ H A vs ds → Ow K mg S σ H A (.ref a) (.tup ds)
  | lst {a : Addr} {vs : List V} {ds : List D} : ImL S H a vs → OwL K mg S σ H [] vs ds → Ow K mg S σ H [] (.ref a) (.lst ds)
  | scr {a : Addr} {vs : List V} {ds : List D} : ScL K S H a vs → OwL K mg S σ H [] vs ds → Ow K mg S σ H [] (.ref a) (.scr ds)
  | own {a : Addr} {A : List Addr} {vs : List V} {ds : List D} : H a = some (.lst vs) → a ∉ A → OwL K mg S σ H A vs ds → Ow K mg S σ H (a :: A) (.ref a) (.own ds)
  | dic {a : Addr} {ks : List Key} {vs : List V} {ds : List D} : ImD S H a ks vs → OwL K mg S σ H [] vs ds → Ow K mg S σ H [] (.ref a) (.dic ks ds)
  | odic {a : Addr} {A : List Addr} {ks : List Key} {vs : List V} {ds : List D} : H a = some (.dK (ks.zip vs)) → ks.length = vs.length → a ∉ A → OwL K mg S σ H A vs ds → Ow K mg S σ H (a :: A) (.ref a) (.odic ks ds)
  | bor {i : Nat} {v : V} : σ[i]? = some (some v) → Ow K mg S σ H [] v (.bor i)
inductive OwL (K : PySem.W.Frag) (mg : Str → Option Value) (S : Addr → Prop) (σ : St) (H : Hp) : List Addr → List V → List D → Prop
  | nil : OwL K mg S σ H [] [] []
  | cons {A B : List Addr} {v : V} {vs : List V} {d : D} {ds : List D} : Ow K mg S σ H A v d → OwL K mg S σ H B vs ds → (∀ p ∈ A, p ∉ B) → OwL K mg S σ H (A ++ B) (v :: vs) (d :: ds)
end

section
variable {K : PySem.W.Frag} {mg : Str → Option Value} {S S' : Addr → Prop} {σ σ' : St} {H H' : Hp}
/-- one change for all: the exclusion S to S', the slots, the heap -/
structure Chg (S S' : Addr → Prop) (B : Addr → Prop) (H H' : Hp) : Prop where
  keep : ∀ b o, H b = some o → (¬ S b ∨ B b) → H' b = some o
  out : ∀ b, H b ≠ none → S' b → S b
mutual
theorem Ow.chg {Bp : Addr → Prop} (c : Chg S S' Bp H H') : ∀ {A : List Addr} {v : V} {d : D}, Ow K mg S σ H A v d → (∀ p ∈ A, Bp p) → (∀ (i : Nat) (v : V), σ[i]? = some (some v) → noBor d = true ∨ σ'[i]? = some (some v)) → Ow K mg S' σ' H' A v d
  | _, _, _, .non, _, _ => .non
  | _, _, _, .bl b, _, _ => .bl b
  | _, _, _, .int b, _, _ => .int b
  | _, _, _, .str b, _, _ => .str b
  | _, _, _, .tup h l, hA, hs => .tup (by
      rcases h with ⟨h1, h2⟩ | h
      · exact .inl ⟨fun z => h1 (c.out _ (rd_there h2) z), rd_keep h2 fun o e => c.keep _ _ e (.inl h1)⟩
      · exact .inr h) (OwL.chg c l hA fun i v e => (hs i v e).imp (fun z => by simpa [noBor] using z) id)
  | _, _, _, .lst h l, hA, hs => .lst ⟨fun z => h.1 (c.out _ (by rw [h.2]; simp) z), c.keep _ _ h.2 (.inl h.1)⟩ (OwL.chg c l hA fun i v e => (hs i v e).imp (fun z => by simpa [noBor] using z) id)
  | _, _, _, .scr h l, hA, hs => .scr (by
      rcases h with ⟨h1, o, h2⟩ | h
      · exact .inl ⟨fun z => h1 (c.out _ (by rw [h2]; simp) z), o, c.keep _ _ h2 (.inl h1)⟩
      · exact .inr h) (OwL.chg c l hA fun i v e => (hs i v e).imp (fun z => by simpa [noBor] using z) id)
  | _, _, _, .own h n l, hA, hs => .own (c.keep _ _ h (.inr (hA _ List.mem_cons_self))) n (OwL.chg c l (fun p hp => hA p (List.mem_cons_of_mem _ hp)) fun i v e => (hs i v e).imp (fun z => by simpa [noBor] using z) id)
  | _, _, _, .dic h l, hA, hs => .dic ⟨fun z => h.1 (c.out _ (by rw [h.2.1]; simp) z), c.keep _ _ h.2.1 (.inl h.1), h.2.2⟩ (OwL.chg c l hA fun i v e => (hs i v e).imp (fun z => by simpa [noBor] using z) id)
  | _, _, _, .odic h g n l, hA, hs => .odic (c.keep _ _ h (.inr (hA _ List.mem_cons_self))) g n (OwL.chg c l (fun p hp => hA p (List.mem_cons_of_mem _ hp)) fun i v e => (hs i v e).imp (fun z => by simpa [noBor] using z) id)
  | _, _, _, .bor h, _, hs => .bor ((hs _ _ h).elim (fun z => by simp [noBor] at z) id)
theorem OwL.chg {Bp : Addr → Prop} (c : Chg S S' Bp H H') : ∀ {A : List Addr} {v : List V} {d : List D}, OwL K mg S σ H A v d → (∀ p ∈ A, Bp p) → (∀ (i : Nat) (v : V), σ[i]? = some (some v) → noBorL d = true ∨ σ'[i]? = some (some v)) → OwL K mg S' σ' H' A v d
  | _, _, _, .nil, _, _ => .nil
  | _, _, _, .cons h l n, hA, hs => .cons (Ow.chg c h (fun p hp => hA p (List.mem_append_left _ hp)) fun i v e => (hs i v e).imp (fun z => by simp only [noBorL, Bool.and_eq_true] at z; exact z.1) id)
      (OwL.chg c l (fun p hp => hA p (List.mem_append_right _ hp)) fun i v e => (hs i v e).imp (fun z => by simp only [noBorL, Bool.and_eq_true] at z; exact z.2) id) n
end
/-- fewer are excluded -/
theorem Ow.weak {A : List Addr} {v : V} {d : D} (h : Ow K mg S σ H A v d) (hS : ∀ p, S' p → S p) : Ow K mg S' σ H A v d :=
  h.chg (Bp := fun _ => True) ⟨fun _ _ e _ => e, fun b _ z => hS b z⟩ (fun _ _ => trivial) fun _ _ e => .inr e
theorem OwL.weak {A : List Addr} {v : List V} {d : List D} (h : OwL K mg S σ H A v d) (hS : ∀ p, S' p → S p) : OwL K mg S' σ H A v d :=
  h.chg (Bp := fun _ => True) ⟨fun _ _ e _ => e, fun b _ z => hS b z⟩ (fun _ _ => trivial) fun _ _ e => .inr e
/-- other slots -/
theorem Ow.slots {A : List Addr} {v : V} {d : D} (h : Ow K mg S σ H A v d) (hn : noBor d = true) (σ' : St) : Ow K mg S σ' H A v d :=
  h.chg (Bp := fun _ => True) ⟨fun _ _ e _ => e, fun b _ z => z⟩ (fun _ _ => trivial) fun _ _ _ => .inl hn
theorem OwL.slots {A : List Addr} {v : List V} {d : List D} (h : OwL K mg S σ H A v d) (hn : noBorL d = true) (σ' : St) : OwL K mg S σ' H A v d :=
  h.chg (Bp := fun _ => True) ⟨fun _ _ e _ => e, fun b _ z => z⟩ (fun _ _ => trivial) fun _ _ _ => .inl hn
mutual
/-- what is owned stands -/
theorem Ow.there : ∀ {A : List Addr} {v : V} {d : D}, Ow K mg S σ H A v d → ∀ p ∈ A, H p ≠ none
  | _, _, _, .non, _, h => by simp at h
  | _, _, _, .bl b, _, h => by simp at h
  | _, _, _, .int b, _, h => by simp at h
  | _, _, _, .str b, _, h => by simp at h
  | _, _, _, .tup _ l, p, h => OwL.there l p h
  | _, _, _, .lst _ l, _, h => by simp at h
  | _, _, _, .scr _ l, _, h => by simp at h
  | _, _, _, .own e n l, p, h => by
    rcases List.mem_cons.mp h with rfl | h
    · rw [e]; simp
    · exact OwL.there l p h
  | _, _, _, .dic _ l, _, h => by simp at h
  | _, _, _, .odic e _ n l, p, h => by
    rcases List.mem_cons.mp h with rfl | h
    · rw [e]; simp
    · exact OwL.there l p h
  | _, _, _, .bor _, _, h => by simp at h
theorem OwL.there : ∀ {A : List Addr} {v : List V} {d : List D}, OwL K mg S σ H A v d → ∀ p ∈ A, H p ≠ none
  | _, _, _, .nil, _, h => by simp at h
  | _, _, _, .cons a b _, p, h => by
    rcases List.mem_append.mp h with h | h
    · exact Ow.there a p h
    · exact OwL.there b p h
end
mutual
/-- a plain thing owns nothing -/
theorem Ow.bare : ∀ {A : List Addr} {v : V} {d : D}, Ow K mg S σ H A v d → plain d = true → A = []
  | _, _, _, .non, _ => rfl
  | _, _, _, .bl b, _ => rfl
  | _, _, _, .int b, _ => rfl
  | _, _, _, .str b, _ => rfl
  | _, _, _, .tup _ l, h => OwL.bare l (by simpa [plain] using h)
  | _, _, _, .lst _ l, _ => rfl
  | _, _, _, .scr _ l, _ => rfl
  | _, _, _, .own e n l, h => by simp [plain] at h
  | _, _, _, .dic _ l, _ => rfl
  | _, _, _, .odic e _ n l, h => by simp [plain] at h
  | _, _, _, .bor _, h => by simp [plain] at h
theorem OwL.bare : ∀ {A : List Addr} {v : List V} {d : List D}, OwL K mg S σ H A v d → plainL d = true → A = []
  | _, _, _, .nil, _ => rfl
  | _, _, _, .cons a b _, h => by
    simp only [plainL, Bool.and_eq_true] at h
    rw [Ow.bare a h.1, OwL.bare b h.2]; rfl
end
mutual
/-- frozen: what it owned isn't excluded any more -/
theorem Ow.frz : ∀ {A : List Addr} {v : V} {d : D}, Ow K mg S σ H A v d → (∀ p, S' p → S p) → (∀ p ∈ A, ¬ S' p) → Ow K mg S' σ H [] v (Dn.frz d)
  | _, _, _, .non, _, _ => .non
  | _, _, _, .bl b, _, _ => .bl b
  | _, _, _, .int b, _, _ => .int b
  | _, _, _, .str b, _, _ => .str b
  | _, _, _, .tup h l, hS, hA => .tup (h.elim (fun h => .inl ⟨fun z => h.1 (hS _ z), h.2⟩) .inr) (OwL.frz l hS hA)
  | _, _, _, .lst h l, hS, hA => .lst ⟨fun z => h.1 (hS _ z), h.2⟩ (OwL.frz l hS hA)
  | _, _, _, .scr h l, hS, hA => .scr (h.elim (fun h => .inl ⟨fun z => h.1 (hS _ z), h.2⟩) .inr) (OwL.frz l hS hA)
  | _, _, _, .own e n l, hS, hA => .lst ⟨hA _ List.mem_cons_self, e⟩ (OwL.frz l hS fun p hp => hA p (List.mem_cons_of_mem _ hp))
  | _, _, _, .dic h l, hS, hA => .dic ⟨fun z => h.1 (hS _ z), h.2⟩ (OwL.frz l hS hA)
  | _, _, _, .odic e g n l, hS, hA => .dic ⟨hA _ List.mem_cons_self, e, g⟩ (OwL.frz l hS fun p hp => hA p (List.mem_cons_of_mem _ hp))
  | _, _, _, .bor h, _, _ => .bor h
theorem OwL.frz : ∀ {A : List Addr} {v : List V} {d : List D}, OwL K mg S σ H A v d → (∀ p, S' p → S p) → (∀ p ∈ A, ¬ S' p) → OwL K mg S' σ H [] v (Dn.frzL d)
  | _, _, _, .nil, _, _ => .nil
  | _, _, _, .cons a b _, hS, hA => OwL.cons (A := []) (B := []) (Ow.frz a hS fun p hp => hA p (List.mem_append_left _ hp)) (OwL.frz b hS fun p hp => hA p (List.mem_append_right _ hp)) (by simp)
end
mutual
/-- what has no frozen list doesn't reach the list at q -/
theorem Ow.apart {Sq : Addr → Prop} (hq : ∀ q, Sq q → (∃ xs, H q = some (.lst xs)) ∨ ∃ ks, H q = some (.dK ks)) : ∀ {A : List Addr} {v : V} {d : D}, Ow K mg S σ H A v d → noLst d = true → Ow K mg (fun p => S p ∨ Sq p) σ H A v d
  | _, _, _, .non, _ => .non
  | _, _, _, .bl b, _ => .bl b
  | _, _, _, .int b, _ => .int b
  | _, _, _, .str b, _ => .str b
  | _, _, _, .tup h l, n => .tup (by
      rcases h with ⟨h1, h2⟩ | h
      · refine .inl ⟨fun z => ?_, h2⟩
        rcases z with z | z
        · exact h1 z
        · rcases hq _ z with ⟨xs, e⟩ | ⟨ks, e⟩ <;> rcases h2 with h2 | ⟨o, h2⟩ <;> rw [e] at h2 <;> cases h2
      · exact .inr h) (OwL.apart hq l (by simpa [noLst] using n))
  | _, _, _, .lst h l, n => by simp [noLst] at n
  | _, _, _, .scr h l, n => .scr (by
      rcases h with ⟨h1, o, h2⟩ | h
      · refine .inl ⟨fun z => ?_, o, h2⟩
        rcases z with z | z
        · exact h1 z
        · rcases hq _ z with ⟨xs, e⟩ | ⟨ks, e⟩ <;> rw [e] at h2 <;> cases h2
      · exact .inr h) (OwL.apart hq l (by simpa [noLst] using n))
  | _, _, _, .own e n l, h => .own e n (OwL.apart hq l (by simpa [noLst] using h))
  | _, _, _, .dic h l, n => by simp [noLst] at n
  | _, _, _, .odic e g n l, h => .odic e g n (OwL.apart hq l (by simpa [noLst] using h))
  | _, _, _, .bor h, _ => .bor h
theorem OwL.apart {Sq : Addr → Prop} (hq : ∀ q, Sq q → (∃ xs, H q = some (.lst xs)) ∨ ∃ ks, H q = some (.dK ks)) : ∀ {A : List Addr} {v : List V} {d : List D}, OwL K mg S σ H A v d → noLstL d = true → OwL K mg (fun p => S p ∨ Sq p) σ H A v d
  | _, _, _, .nil, _ => .nil
  | _, _, _, .cons a b n, h => by
    simp only [noLstL, Bool.and_eq_true] at h
    exact .cons (Ow.apart hq a h.1) (OwL.apart hq b h.2) n
end
end
end Dn
/-! Dn2: environments, moves, what an expression denotes. -/
namespace Dn
open PySem PySem.Spec L2

abbrev Env := List (Option D)
def SA (A : Nat → List Addr) (T : Addr → Prop) (p : Addr) : Prop := T p ∨ ∃ i, p ∈ A i
def TB (T : Addr → Prop) (B : List Addr) (p : Addr) : Prop := T p ∨ p ∈ B

structure EnvOk (K : PySem.W.Frag) (mg : Str → Option Value) (T : Addr → Prop) (env : Env) (σ : St) (H : Hp) (A : Nat → List Addr) : Prop where
  len : env.length = σ.length
  slot : ∀ (i : Nat) (d : D), env[i]? = some (some d) → noBor d = true ∧ ∃ v, σ[i]? = some (some v) ∧ Ow K mg (SA A T) σ H (A i) v d
  emp : ∀ i : Nat, (∀ d, env[i]? ≠ some (some d)) → A i = []
  dis : ∀ (i j : Nat) (p : Addr), i ≠ j → p ∈ A i → p ∉ A j
  sep : ∀ (i : Nat) (p : Addr), p ∈ A i → ¬ T p
  tt : ∀ p, T p → H p ≠ none

structure Moved (A A' : Nat → List Addr) (B : List Addr) (H H' : Hp) : Prop where
  keep : ∀ b o, H b = some o → (∀ i, b ∉ A i) → H' b = some o
  new : ∀ p, (p ∈ B ∨ ∃ i, p ∈ A' i) → (∃ i, p ∈ A i) ∨ H p = none

section
variable {K : PySem.W.Frag} {mg : Str → Option Value} {T T' : Addr → Prop} {env env' : Env} {σ σ' : St} {H H' H1 H2 : Hp} {A A' A1 A2 : Nat → List Addr} {B B' B1 B2 : List Addr} {v : V} {d : D}

theorem EnvOk.there (h : EnvOk K mg T env σ H A) : ∀ p, SA A T p → H p ≠ none := fun p z => by
  rcases z with z | ⟨i, z⟩
  · exact h.tt p z
  · by_cases q : ∃ d, env[i]? = some (some d)
    · obtain ⟨d, q⟩ := q
      obtain ⟨_, v, _, o⟩ := h.slot i d q
      exact o.there p z
    · rw [h.emp i fun d e => q ⟨d, e⟩] at z
      cases z
theorem EnvOk.weak (h : EnvOk K mg T env σ H A) (hT : ∀ p, T' p → T p) : EnvOk K mg T' env σ H A where
  len := h.len
  slot i d e := by
    obtain ⟨n, v, s, o⟩ := h.slot i d e
    exact ⟨n, v, s, o.weak fun p z => z.imp (hT p) id⟩
  emp := h.emp
  dis := h.dis
  sep i p hp z := h.sep i p hp (hT p z)
  tt p z := h.tt p (hT p z)
theorem EnvOk.drop (h : EnvOk K mg (TB T B) env σ H A) : EnvOk K mg T env σ H A := h.weak fun _ z => .inl z
/-- new things beside it -/
theorem EnvOk.grow (h : EnvOk K mg T env σ H A) (k : ∀ b o, H b = some o → H' b = some o) (hB : ∀ p ∈ B, H p = none) (hB' : ∀ p ∈ B, H' p ≠ none) : EnvOk K mg (TB T B) env σ H' A where
  len := h.len
  slot i d e := by
    obtain ⟨n, v, s, o⟩ := h.slot i d e
    refine ⟨n, v, s, (o.chg (S' := SA A (TB T B)) (H' := H') (σ' := σ) (Bp := fun _ => True) ⟨fun b u e _ => k b u e, fun b z y => ?_⟩ (fun _ _ => trivial) fun _ _ _ => .inl n)⟩
    rcases y with (y | y) | y
    · exact .inl y
    · exact absurd (hB b y) z
    · exact .inr y
  emp := h.emp
  dis := h.dis
  sep i p hp z := by
    rcases z with z | z
    · exact h.sep i p hp z
    · exact h.there p (.inr ⟨i, hp⟩) (hB p z)
  tt p z := by
    rcases z with z | z
    · intro q
      cases e : H p with
      | none => exact h.tt p z e
      | some o => rw [k p o e] at q; cases q
    · exact hB' p z
theorem Moved.refl : Moved A A [] H H := ⟨fun _ _ e _ => e, fun p z => by
  rcases z with z | z
  · cases z
  · exact .inl z⟩
theorem Moved.back (m : Moved A A' B H H') {p : Addr} (e : H' p = none) : (∃ i, p ∈ A i) ∨ H p = none := by
  cases q : H p with
  | none => exact .inr rfl
  | some o =>
    by_cases z : ∃ i, p ∈ A i
    · exact .inl z
    · rw [m.keep p o q fun i hi => z ⟨i, hi⟩] at e
      cases e
theorem Moved.trans (m : Moved A A1 B1 H H1) (n : Moved A1 A2 B2 H1 H2) (hB : ∀ p ∈ B, p ∈ B1 ∨ p ∈ B2 ∨ (∃ i, p ∈ A1 i)) : Moved A A2 B H H2 := by
  refine ⟨fun b o e hb => n.keep b o (m.keep b o e hb) fun i hi => ?_, fun p z => ?_⟩
  · rcases m.new b (.inr ⟨i, hi⟩) with ⟨j, z⟩ | z
    · exact hb j z
    · rw [e] at z; cases z
  · have s : (p ∈ B2 ∨ ∃ i, p ∈ A2 i) → (∃ i, p ∈ A i) ∨ H p = none := fun z => by
      rcases n.new p z with z | z
      · exact m.new p (.inr z)
      · exact m.back z
    rcases z with z | z
    · rcases hB p z with z | z | z
      · exact m.new p (.inl z)
      · exact s (.inl z)
      · exact m.new p (.inr z)
    · exact s (.inr z)
theorem Moved.fewer (m : Moved A A' B H H') (hB : ∀ p ∈ B', p ∈ B ∨ ∃ i, p ∈ A' i) : Moved A A' B' H H' := ⟨m.keep, fun p z => by
  rcases z with z | z
  · exact m.new p (hB p z)
  · exact m.new p (.inr z)⟩
/-- new things alone -/
theorem Moved.grown (k : ∀ b o, H b = some o → H' b = some o) (hB : ∀ p ∈ B, H p = none) : Moved A A B H H' := ⟨fun b o e _ => k b o e, fun p z => by
  rcases z with z | z
  · exact .inr (hB p z)
  · exact .inl z⟩
/-- a thing that is held aside (its own addresses in T) stays -/
theorem Ow.move (o : Ow K mg (SA A T) σ H B v d) (m : Moved A A' B' H H') (hB : ∀ p ∈ B, T p) (sep : ∀ (i : Nat) (p : Addr), p ∈ A i → ¬ T p) : Ow K mg (SA A' (TB T B')) σ H' B v d :=
  o.chg (Bp := T) ⟨fun b u e z => m.keep b u e fun i hi => by
      rcases z with z | z
      · exact z (.inr ⟨i, hi⟩)
      · exact sep i b hi z, fun b z y => by
      rcases y with (y | y) | y
      · exact .inl y
      · rcases m.new b (.inl y) with q | q
        · exact .inr q
        · exact absurd q z
      · rcases m.new b (.inr y) with q | q
        · exact .inr q
        · exact absurd q z⟩ hB fun _ _ e => .inr e
theorem OwL.move {vs : List V} {ds : List D} (o : OwL K mg (SA A T) σ H B vs ds) (m : Moved A A' B' H H') (hB : ∀ p ∈ B, T p) (sep : ∀ (i : Nat) (p : Addr), p ∈ A i → ¬ T p) : OwL K mg (SA A' (TB T B')) σ H' B vs ds :=
  o.chg (Bp := T) ⟨fun b u e z => m.keep b u e fun i hi => by
      rcases z with z | z
      · exact z (.inr ⟨i, hi⟩)
      · exact sep i b hi z, fun b z y => by
      rcases y with (y | y) | y
      · exact .inl y
      · rcases m.new b (.inl y) with q | q
        · exact .inr q
        · exact absurd q z
      · rcases m.new b (.inr y) with q | q
        · exact .inr q
        · exact absurd q z⟩ hB fun _ _ e => .inr e
end

/-! ### outcomes -/
/-- an exception: its class by name, its fields -/
structure Exn where
  cls : Str
  ns : List Str := []
  vs : List D := []
inductive Out (α : Type) where
  | ok (a : α) (env : Env)
  | err (x : Exn) (env : Env)
  | bad
def Out.bind {α β : Type} (o : Out α) (k : α → Env → Out β) : Out β := match o with
  | .ok a env => k a env
  | .err x env => .err x env
  | .bad => .bad
@[simp] theorem Out.bind_ok {α β : Type} (a : α) (env : Env) (k : α → Env → Out β) : (Out.ok a env).bind k = k a env := rfl
@[simp] theorem Out.bind_err {α β : Type} (x : Exn) (env : Env) (k : α → Env → Out β) : (Out.err x env : Out α).bind k = .err x env := rfl
@[simp] theorem Out.bind_bad {α β : Type} (k : α → Env → Out β) : (Out.bad : Out α).bind k = .bad := rfl

/-- what the wish W says of the exception x -/
def ErrW (mg : Str → Option Value) (W : WX) (x : Exn) (σ : St) (H : Hp) : Prop :=
  ∀ C : Addr, mg x.cls = some (.ref C) → x.ns = [] → W (.ref C) none σ H

section
variable (X : Cx) (W : WX) (T : Addr → Prop) (A : Nat → List Addr) (σ : St) (H : Hp)
def WErr (x : Exn) (env' : Env) : Prop := ∀ H' A', Moved A A' [] H H' → EnvOk X.K X.mg T env' σ H' A' → ErrW X.mg W x σ H'
def WD (o : Out D) (Q : VK) : Prop := match o with
  | .ok d env' => ∀ v H' A' B, Moved A A' B H H' → EnvOk X.K X.mg (TB T B) env' σ H' A' → Ow X.K X.mg (SA A' (TB T B)) σ H' B v d → Q v H'
  | .err x env' => WErr X W T A σ H x env'
  | .bad => False
def WL (o : Out (List D)) (Q : List V → Hp → Prop) : Prop := match o with
  | .ok ds env' => ∀ vs H' A' B, Moved A A' B H H' → EnvOk X.K X.mg (TB T B) env' σ H' A' → OwL X.K X.mg (SA A' (TB T B)) σ H' B vs ds → Q vs H'
  | .err x env' => WErr X W T A σ H x env'
  | .bad => False
def WB (o : Out Bool) (Q : Bool → Hp → Prop) : Prop := match o with
  | .ok b env' => ∀ H' A', Moved A A' [] H H' → EnvOk X.K X.mg T env' σ H' A' → Q b H'
  | .err x env' => WErr X W T A σ H x env'
  | .bad => False
end
section
variable {X : Cx} {W : WX} {T : Addr → Prop} {env : Env} {A A1 : Nat → List Addr} {B1 : List Addr} {σ : St} {H H1 : Hp}
theorem WErr.re {x : Exn} {env' : Env} (h : WErr X W T A σ H x env') (m : Moved A A1 B1 H H1) : WErr X W (TB T B1) A1 σ H1 x env' := fun H' A' n e =>
  h H' A' (m.trans n fun p z => by cases z) e.drop
theorem WD.re {o : Out D} {Q : VK} (h : WD X W T A σ H o Q) (m : Moved A A1 B1 H H1) : WD X W (TB T B1) A1 σ H1 o Q := by
  cases o with
  | ok d env' => exact fun v H' A' B n e w => h v H' A' B (m.trans n fun p z => .inr (.inl z)) (e.weak fun p z => z.imp .inl id) (w.weak fun p z => z.imp (fun z => z.imp .inl id) id)
  | err x env' => exact WErr.re h m
  | bad => exact h
theorem WL.re {o : Out (List D)} {Q : List V → Hp → Prop} (h : WL X W T A σ H o Q) (m : Moved A A1 B1 H H1) : WL X W (TB T B1) A1 σ H1 o Q := by
  cases o with
  | ok d env' => exact fun v H' A' B n e w => h v H' A' B (m.trans n fun p z => .inr (.inl z)) (e.weak fun p z => z.imp .inl id) (w.weak fun p z => z.imp (fun z => z.imp .inl id) id)
  | err x env' => exact WErr.re h m
  | bad => exact h
theorem WB.re {o : Out Bool} {Q : Bool → Hp → Prop} (h : WB X W T A σ H o Q) (m : Moved A A1 B1 H H1) : WB X W (TB T B1) A1 σ H1 o Q := by
  cases o with
  | ok d env' => exact fun H' A' n e => h H' A' (m.trans n fun p z => by cases z) e.drop
  | err x env' => exact WErr.re h m
  | bad => exact h
end

/-! ### the judgements on readings, on syntax -/
def SE (X : Cx) (W : WX) (t : TE) (f : Env → Out D) : Prop := ∀ T env σ H A Q, EnvOk X.K X.mg T env σ H A → WD X W T A σ H (f env) Q → t σ H Q
def SL (X : Cx) (W : WX) (t : TA) (f : Env → Out (List D)) : Prop := ∀ T env σ H A Q, EnvOk X.K X.mg T env σ H A → WL X W T A σ H (f env) Q → t σ H Q
def ST (X : Cx) (W : WX) (t : TT) (f : Env → Out Bool) : Prop := ∀ T env σ H A Q, EnvOk X.K X.mg T env σ H A → WB X W T A σ H (f env) Q → t σ H Q
def DE (X : Cx) (W : WX) (e : Expr) (f : Env → Out D) : Prop := ∃ t, PE X e t ∧ SE X W t f
def DA (X : Cx) (W : WX) (es : List Expr) (f : Env → Out (List D)) : Prop := ∃ t, PA X es t ∧ SL X W t f
def DT (X : Cx) (W : WX) (e : Expr) (f : Env → Out Bool) : Prop := ∃ t, PT X e t ∧ ST X W t f

def dNil : Env → Out (List D) := fun env => .ok [] env
def dCons (f : Env → Out D) (g : Env → Out (List D)) : Env → Out (List D) := fun env => (f env).bind fun d env1 => (g env1).bind fun ds env2 => .ok (d :: ds) env2
section
variable {X : Cx} {W : WX} {e : Expr} {es : List Expr} {f : Env → Out D} {g : Env → Out (List D)}
theorem sl_nil : SL X W tNil dNil := fun T env σ H A Q I h => h [] H A [] .refl (I.weak fun p z => z.elim id fun z => by cases z) .nil
theorem sl_cons {te : TE} {ta : TA} (hf : SE X W te f) (hg : SL X W ta g) : SL X W (tCons te ta) (dCons f g) := fun T env σ H A Q I h => by
  refine hf T env σ H A _ I ?_
  unfold dCons at h
  cases ef : f env with
  | bad => rw [ef] at h; exact h
  | err x env' => rw [ef] at h; exact h
  | ok d1 env1 =>
    rw [ef, Out.bind_ok] at h
    intro v1 H1 A1 B1 m1 I1 o1
    refine hg (TB T B1) env1 σ H1 A1 _ I1 ?_
    cases eg : g env1 with
    | bad => rw [eg] at h; exact h
    | err x env' => rw [eg] at h; exact WErr.re (show WErr X W T A σ H x env' from h) m1
    | ok ds env2 =>
      rw [eg, Out.bind_ok] at h
      intro vs H2 A2 B2 m2 I2 o2
      have o1' := o1.move m2 (fun p hp => .inr hp) I1.sep
      refine h (v1 :: vs) H2 A2 (B1 ++ B2) (m1.trans m2 fun p z => ?_) (I2.weak fun p z => ?_) (.cons (o1'.weak fun p z => ?_) (o2.weak fun p z => ?_) fun p h1 h2 => ?_)
      · exact (List.mem_append.mp z).imp id .inl
      · exact z.elim (fun z => .inl (.inl z)) fun z => (List.mem_append.mp z).elim (fun z => .inl (.inr z)) .inr
      · exact z.imp (fun z => z.elim (fun z => .inl (.inl z)) fun z => (List.mem_append.mp z).elim (fun z => .inl (.inr z)) .inr) id
      · exact z.imp (fun z => z.elim (fun z => .inl (.inl z)) fun z => (List.mem_append.mp z).elim (fun z => .inl (.inr z)) .inr) id
      · rcases m2.new p (.inl h2) with ⟨i, z⟩ | z
        · exact I1.sep i p z (.inr h1)
        · exact o1.there p h1 z
theorem da_nil : DA X W [] dNil := ⟨_, pa_nil, sl_nil⟩
theorem da_cons (hf : DE X W e f) (hg : DA X W es g) (hs : starEach (e :: es) X.env = (false, eval e X.env) :: starEach es X.env := by rfl) : DA X W (e :: es) (dCons f g) := by
  obtain ⟨t, p, s⟩ := hf
  obtain ⟨u, q, r⟩ := hg
  exact ⟨_, pa_cons p q hs, sl_cons s r⟩
end

/-! ### names, constants -/
/-- a name: its datum, or what stands in its slot -/
def dVar (i : Nat) : Env → Out D := fun env => match env[i]? with
  | some (some d) => if plain d then .ok d env else .ok (.bor i) env
  | _ => .bad
def dC (d : D) : Env → Out D := fun env => .ok d env
section
variable {X : Cx} {W : WX}
theorem tbn {T : Addr → Prop} : ∀ p, TB T [] p → T p := fun p z => z.elim id fun z => by cases z
theorem san {A : Nat → List Addr} {T : Addr → Prop} : ∀ p, SA A (TB T []) p → SA A T p := fun p z => z.imp (tbn p) id
theorem WD.flat {T : Addr → Prop} {env : Env} {A : Nat → List Addr} {σ : St} {H : Hp} {Q : VK} {d : D} {v : V} (h : WD X W T A σ H (.ok d env) Q) (I : EnvOk X.K X.mg T env σ H A) (o : Ow X.K X.mg (SA A T) σ H [] v d) : Q v H :=
  h v H A [] .refl (I.weak tbn) (o.weak san)
theorem se_var {i : Nat} : SE X W (tVar i) (dVar i) := fun T env σ H A Q I h => by
  unfold dVar at h
  split at h
  · rename_i d e
    obtain ⟨n, v, s, o⟩ := I.slot i d e
    refine ⟨v, s, ?_⟩
    split at h
    · rename_i hp
      have z := o.bare hp
      rw [z] at o
      exact h.flat I o
    · exact h.flat I (.bor s)
  · exact h.elim
theorem de_var (i : Nat) {x : Str} {pos : Pos} (hN : X.N[i]? = some x := by rfl) (hv : Vis X.env.scope x := by first | exact Or.inl rfl | exact Or.inr (Or.inl rfl) | exact Or.inr (Or.inr rfl)) (hd : (x == ("__debug__" : Str)) = false := by decide)
    (hcd : (x == ("__classdict__" : Str)) = false := by decide) : DE X W (.Name x pos) (dVar i) := ⟨_, pe_var hN hv hd hcd, se_var⟩
theorem se_c {v : V} {d : D} (h : ∀ K mg S σ H, Ow K mg S σ H [] v d) : SE X W (tC v) (dC d) := fun T env σ H A Q I k => k.flat I (h _ _ _ _ _)
theorem de_int {i j pos} : DE X W (.Constant (.int i) j pos) (dC (.int i)) := ⟨_, pe_int, se_c fun _ _ _ _ _ => .int i⟩
theorem de_bl {i j pos} : DE X W (.Constant (.bool i) j pos) (dC (.bl i)) := ⟨_, pe_bl, se_c fun _ _ _ _ _ => .bl i⟩
theorem de_non {j pos} : DE X W (.Constant .none j pos) (dC .non) := ⟨_, pe_non, se_c fun _ _ _ _ _ => .non⟩
theorem de_str {i j pos} : DE X W (.Constant (.str i) j pos) (dC (.str i)) := ⟨_, pe_str, se_c fun _ _ _ _ _ => .str i⟩
end

/-! ### pure operations on data -/
def PureR (X : Cx) (r : List V → Hp → VK → Prop) (F : Env → List D → Option D) : Prop :=
  ∀ T env σ H A B vs ds d Q, EnvOk X.K X.mg (TB T B) env σ H A → OwL X.K X.mg (SA A (TB T B)) σ H B vs ds → F env ds = some d →
    (∀ v H' B', (∀ b o, H b = some o → H' b = some o) → (∀ p ∈ B', H p = none) → Ow X.K X.mg (SA A (TB T B')) σ H' B' v d → Q v H') → r vs H Q
def dOp (F : Env → List D → Option D) (fs : Env → Out (List D)) : Env → Out D := fun env => (fs env).bind fun ds env' => match F env' ds with
  | some d => .ok d env'
  | none => .bad
section
variable {X : Cx} {W : WX}
theorem se_app {ta : TA} {r : List V → Hp → VK → Prop} {F : Env → List D → Option D} {fs : Env → Out (List D)} (hs : SL X W ta fs) (hr : PureR X r F) : SE X W (tCB r ta) (dOp F fs) := fun T env σ H A Q I h => by
  refine hs T env σ H A _ I ?_
  unfold dOp at h
  cases e : fs env with
  | bad => rw [e] at h; exact h
  | err x env' => rw [e] at h; exact h
  | ok ds env1 =>
    rw [e, Out.bind_ok] at h
    intro vs H1 A1 B1 m1 I1 o1
    cases ef : F env1 ds with
    | none => rw [ef] at h; exact h.elim
    | some d =>
      rw [ef] at h
      refine hr T env1 σ H1 A1 B1 vs ds d Q I1 o1 ef fun v H' B' k nb o => ?_
      exact h v H' A1 B' (m1.trans (Moved.grown (A := A1) k nb) fun p z => .inr (.inl z)) (I1.drop.grow k nb fun p z => o.there p z) o
/-- a rule of one value, of two, as a rule of a list -/
def r1 (r : V → Hp → VK → Prop) : List V → Hp → VK → Prop := fun vs H Q => match vs with
  | [x] => r x H Q
  | _ => False
def r2 (r : R2) : List V → Hp → VK → Prop := fun vs H Q => match vs with
  | [x, y] => r x y H Q
  | _ => False
theorem se_op {ta tb : TE} {r : R2} {F : Env → List D → Option D} {f g : Env → Out D} (ha : SE X W ta f) (hb : SE X W tb g) (hr : PureR X (r2 r) F) : SE X W (tOp r ta tb) (dOp F (dCons f (dCons g dNil))) := fun T env σ H A Q I h =>
  se_app (sl_cons ha (sl_cons hb sl_nil)) hr T env σ H A Q I h
theorem se_un {ta : TE} {r : V → Hp → VK → Prop} {F : Env → List D → Option D} {f : Env → Out D} (ha : SE X W ta f) (hr : PureR X (r1 r) F) : SE X W (tUn r ta) (dOp F (dCons f dNil)) := fun T env σ H A Q I h =>
  se_app (sl_cons ha sl_nil) hr T env σ H A Q I h
end

/-! ### where one stands: room, what is let out -/
structure Sit (X : Cx) (W : WX) (k : Nat) : Prop where
  room : Room k X.A
  quiet : X.A.guards = some []
  calm : X.calm = true
  nd : X.N.Nodup
  own : PassesOwn (model X.prog X.w) X.A X.env X.xe
  pass : ∀ σ, PassesAt (L2.CX X.prog X.w) X σ (WE W σ)
def W0 : WX := fun _ _ _ _ => False
theorem pass_none {X : Cx} (σ : St) : PassesAt (L2.CX X.prog X.w) X σ (WE W0 σ) := fun _ _ _ _ _ _ z => by
  obtain ⟨_, _, _, _, _, _, _, _, _, _, _, _, z⟩ := z
  exact z.elim
end Dn
/-! Dn3: defs: what a def keeps where no repr is under way; its contract on data. -/
namespace Dn
open PySem PySem.Spec L2

/-- a def keeps sp, called where no repr is under way -/
structure FnG (P : Program) (w : World) (K : PySem.W.Frag) (mg : Str → Option Value) (base : Heap) (k : Nat) (f : Addr) (fd : FuncData) (ps : List Str) (sp : Sp) : Prop where
  len : ∀ vs H Q E, sp vs H Q E → vs.length = ps.length
  run : ∀ (A : Around) (outer : List PySem.Env) (s : Shared) (H : Hp) (ag : Args) (us : List Value) (vs : List V) (Q : VK) (E : XK), A.guards = some [] → Room k A → Env0 P w K mg base A outer s H →
    BindsTo s fd ag (ps.zip us) → Vals vs us → sp vs H Q E → codeAny (model P w) A (.call (.ref f) ag) (CR (L2.CX P w) outer P w H s Q E) s
theorem FnG.mono {P : Program} {w : World} {K : PySem.W.Frag} {mg : Str → Option Value} {base : Heap} {j k : Nat} {f : Addr} {fd : FuncData} {ps : List Str} {sp : Sp} (F : FnG P w K mg base j f fd ps sp) (h : j ≤ k) : FnG P w K mg base k f fd ps sp :=
  ⟨F.len, fun A o s H ag us vs Q E g r => F.run A o s H ag us vs Q E g (r.mono h)⟩
theorem FnG.imp {P : Program} {w : World} {K : PySem.W.Frag} {mg : Str → Option Value} {base : Heap} {k : Nat} {f : Addr} {fd : FuncData} {ps : List Str} {sp sp' : Sp} (F : FnG P w K mg base k f fd ps sp) (h : ∀ vs H Q E, sp' vs H Q E → sp vs H Q E) : FnG P w K mg base k f fd ps sp' :=
  ⟨fun vs H Q E z => F.len vs H Q E (h _ _ _ _ z), fun A o s H ag us vs Q E g r e b v z => F.run A o s H ag us vs Q E g r e b v (h _ _ _ _ z)⟩

section
variable {X : Cx} {W : WX} {k : Nat} {f : Addr} {fd : FuncData} {ps : List Str} {sp : Sp} {σ : St} {H : Hp} {s : Shared} {Q : VK} {pins : List (Addr × Obj)}
/-- the callee, its parameters bound somehow -/
theorem runs (Z : Sit X W k) (F : FnG X.prog X.w X.K X.mg X.base k f fd ps sp) {us ws : List Value} {vs : List V} {kw : List (Str × Value)} (I : Inv X pins σ H s) (b : vs.length = ps.length → BindsTo s fd ⟨us, kw⟩ (ps.zip ws)) (r : Vals vs ws) (h : sp vs H Q (WE W σ)) :
    wpAny (model X.prog X.w) X.A (call (.ref f) us kw) (EP X pins σ Q) X.xe s := by
  have le := F.len _ _ _ _ h
  apply wpAny_call
  apply codeAny_mono (F.run X.A X.stack s H ⟨us, kw⟩ ws vs Q (WE W σ) Z.quiet Z.room I.env0 (b le) r h)
  rintro (e | fl) s' z
  · exact Z.pass σ pins H s e s' I z
  · cases fl <;> first | exact I.after z | exact False.elim z
def tCal (W : WX) (sp : Sp) (dvs : List V) (t : TA) : TE := fun σ H Q => t σ H fun vs H1 => sp (vs ++ dvs) H1 Q (WE W σ)
def tCalK (W : WX) (sp : Sp) (gV : List V → List V → List V) (t tk : TA) : TE := fun σ H Q => t σ H fun vs H1 => tk σ H1 fun zs H2 => sp (gV vs zs) H2 Q (WE W σ)
variable {x : Str} {p pos : Pos} {e : Expr} {es : List Expr} {t tk : TA} {dvs : List V} {ds : List Value} {kws : List Keyword} {ks : List Str} {g : List Value → List Value → List Value} {gV : List V → List V → List V}
theorem pe_cal (Z : Sit X W k) (F : FnG X.prog X.w X.K X.mg X.base k f fd ps sp) (hg : Gl X x) (hm : X.mg x = some (.ref f)) (hk : PySem.W.keepIn X.K (.ref f) = true) (hb : Binds X.K fd ps ds) (hd : Vals dvs ds) (ha : PA X (e :: es) t)
    (hdb : (x == ("__debug__" : Str)) = false := by decide) (he : starEach (e :: es) X.env = (false, eval e X.env) :: starEach es X.env := by rfl) (hpl : (backTo pos (starEach es X.env)).any (·.1) = false := by rfl) :
    PE X (.Call (.Name x p) (e :: es) [] pos) (tCal W sp dvs t) := by
  constructor
  intro pins s σ H Q I h
  apply wpAny_Call_Name_kw
  apply ld_glob I hg hm _ hdb
  apply PySem.W.callWith_K (h₀ := X.base) I.ok.mod.kin hk _ he hpl
  refine thn (ha.run pos pins s σ H _ I h) ?_
  rintro us s1 ⟨vs, H1, I1, r, q⟩
  exact ⟨I1.kIn, runs Z F I1 (fun l => hb s1 us I1.kIn (by rw [← (r.append hd).length]; exact l)) (r.append hd) q⟩
theorem pe_cal0 (Z : Sit X W k) (F : FnG X.prog X.w X.K X.mg X.base k f fd ps sp) (hg : Gl X x) (hm : X.mg x = some (.ref f)) (hk : PySem.W.keepIn X.K (.ref f) = true) (hb : Binds X.K fd ps ds) (hd : Vals dvs ds) (hdb : (x == ("__debug__" : Str)) = false := by decide) :
    PE X (.Call (.Name x p) [] [] pos) (tCal W sp dvs tNil) := by
  constructor
  intro pins s σ H Q I h
  apply wpAny_Call_Name_kw
  apply ld_glob I hg hm _ hdb
  apply PySem.W.callWith_K0 I.kIn hk
  exact runs Z F I (us := []) (ws := [] ++ ds) (fun l => hb s [] I.kIn (by rw [← ((Vals.append .nil hd : Vals ([] ++ dvs) ([] ++ ds))).length]; exact l)) (Vals.append .nil hd) h
/-- keywords alone, or behind positional arguments -/
theorem pe_calK (Z : Sit X W k) (F : FnG X.prog X.w X.K X.mg X.base k f fd ps sp) (hg : Gl X x) (hm : X.mg x = some (.ref f)) (hk : PySem.W.keepIn X.K (.ref f) = true) (hb : KBinds X.K fd ps ks g gV) (ha : PA X (e :: es) t) (hkw : PK X kws tk)
    (hall : (backToKw pos (keywordEach kws X.env)).all (·.1.isSome) = true := by rfl) (hks : (backToKw pos (keywordEach kws X.env)).filterMap (·.1) = ks := by rfl)
    (hdb : (x == ("__debug__" : Str)) = false := by decide) (he : starEach (e :: es) X.env = (false, eval e X.env) :: starEach es X.env := by rfl)
    (hpl : ((backTo pos (starEach (e :: es) X.env)).any (·.1) || (backToKw pos (keywordEach kws X.env)).any (·.1.isNone)) = false := by rfl) : PE X (.Call (.Name x p) (e :: es) kws pos) (tCalK W sp gV t tk) := by
  constructor
  intro pins s σ H Q I h
  apply wpAny_Call_Name_kw
  apply ld_glob I hg hm _ hdb
  apply PySem.W.callWith_KW (h₀ := X.base) I.ok.mod.kin hk hall _ hpl he
  refine thn (ha.run pos pins s σ H _ I h) ?_
  rintro us s1 ⟨vs, H1, I1, r, q⟩
  refine thn (hkw.run pos pins s1 σ H1 _ I1 q) ?_
  rintro ws s2 ⟨zs, H2, I2, rz, q2⟩
  refine ⟨I2.kIn, ?_⟩
  rw [hks]
  exact runs Z F I2 (fun l => hb.to s2 us ws I2.kIn (by rw [← (hb.rel r rz).length]; exact l)) (hb.rel r rz) q2
end

/-! ### the contract on data -/
/-- F on data: the outcome's environment tells what the arguments hold afterwards -/
def spD (K : PySem.W.Frag) (mg : Str → Option Value) (n : Nat) (F : List D → Out D) : Sp := fun vs H Q E => vs.length = n ∧ ∃ (T : Addr → Prop) (ds : List D) (A : Nat → List Addr),
  EnvOk K mg T (ds.map some) (vs.map some) H A ∧ match F ds with
  | .ok d env' => ∀ v H' A' B, Moved A A' B H H' → EnvOk K mg (TB T B) env' (vs.map some) H' A' → Ow K mg (SA A' (TB T B)) [] H' B v d → noBor d = true → Q v H'
  | .err x env' => ∀ H' A', Moved A A' [] H H' → EnvOk K mg T env' (vs.map some) H' A' → ∀ C : Addr, mg x.cls = some (.ref C) → x.ns = [] → E (.ref C) none H'
  | .bad => False
end Dn
/-! Dn4: operations on data. -/
namespace Dn
open PySem PySem.Spec L2

/-- what a datum is now -/
def rd (env : Env) : D → Option D
  | .bor i => match env[i]? with
    | some (some d) => some d
    | _ => none
  | d => some d
def seqL : D → Option (List D)
  | .lst xs => some xs
  | .own xs => some xs
  | .scr xs => some xs
  | _ => none
/-- not of the script, not written -/
def seqM : D → Option (List D)
  | .lst xs => some xs
  | .own xs => some xs
  | _ => none
def seqT : D → Option (List D)
  | .tup xs => some xs
  | _ => none
/-- a list, as it is now -/
def rdL (env : Env) (d : D) : Option (List D) := (rd env d).bind seqL
def rdM (env : Env) (d : D) : Option (List D) := (rd env d).bind seqM
def rdT (env : Env) (d : D) : Option (List D) := (rd env d).bind seqT

section
variable {K : PySem.W.Frag} {mg : Str → Option Value} {S T T' : Addr → Prop} {env env' : Env} {σ σ' : St} {H H' H1 H2 : Hp} {A A' A1 A2 : Nat → List Addr} {B B' B1 B2 : List Addr} {v : V} {vs : List V} {d e g : D} {ds : List D}
theorem OwL.length : ∀ {B : List Addr} {vs : List V} {ds : List D}, OwL K mg S σ H B vs ds → vs.length = ds.length
  | _, _, _, .nil => rfl
  | _, _, _, .cons _ l _ => by rw [List.length_cons, List.length_cons, OwL.length l]
theorem OwL.get : ∀ {B : List Addr} {vs : List V} {ds : List D} {i : Nat} {d : D}, OwL K mg S σ H B vs ds → ds[i]? = some d → ∃ v B', vs[i]? = some v ∧ Ow K mg S σ H B' v d ∧ (∀ p ∈ B', p ∈ B)
  | _, _, _, i, d, .nil, h => by simp at h
  | _, _, _, 0, d, .cons o _ _, h => by
    simp at h
    subst h
    exact ⟨_, _, by simp, o, fun p hp => List.mem_append_left _ hp⟩
  | _, _, _, i + 1, d, .cons _ l _, h => by
    obtain ⟨v, B', h1, h2, h3⟩ := OwL.get (i := i) l (by simpa using h)
    exact ⟨v, B', by simpa using h1, h2, fun p hp => List.mem_append_right _ (h3 p hp)⟩
theorem OwL.inv1 (h : OwL K mg S σ H B vs [d]) : ∃ v B1, vs = [v] ∧ Ow K mg S σ H B1 v d ∧ ∀ p ∈ B1, p ∈ B := by
  cases h with
  | cons o l n => cases l with
    | nil => exact ⟨_, _, rfl, o, fun p hp => List.mem_append_left _ hp⟩
theorem OwL.inv2 (h : OwL K mg S σ H B vs [d, e]) : ∃ v u B1 B2, vs = [v, u] ∧ Ow K mg S σ H B1 v d ∧ Ow K mg S σ H B2 u e ∧ (∀ p ∈ B1, p ∈ B) ∧ (∀ p ∈ B2, p ∈ B) := by
  cases h with
  | cons o l n =>
    obtain ⟨u, B2, rfl, o2, h2⟩ := l.inv1
    exact ⟨_, _, _, _, rfl, o, o2, fun p hp => List.mem_append_left _ hp, fun p hp => List.mem_append_right _ (h2 p hp)⟩
theorem OwL.inv3 (h : OwL K mg S σ H B vs [d, e, g]) : ∃ v u w B1 B2 B3, vs = [v, u, w] ∧ Ow K mg S σ H B1 v d ∧ Ow K mg S σ H B2 u e ∧ Ow K mg S σ H B3 w g := by
  cases h with
  | cons o l n =>
    obtain ⟨u, w, B2, B3, rfl, o2, o3, h2, h3⟩ := l.inv2
    exact ⟨_, _, _, _, _, _, rfl, o, o2, o3⟩
theorem Ow.intv {i : Int} (h : Ow K mg S σ H B v (.int i)) : v = .int i := by cases h; rfl
theorem Ow.strv {i : Str} (h : Ow K mg S σ H B v (.str i)) : v = .str i := by cases h; rfl
theorem Ow.blv {i : Bool} (h : Ow K mg S σ H B v (.bl i)) : v = .bl i := by cases h; rfl
theorem Ow.nonv (h : Ow K mg S σ H B v .non) : v = .non := by cases h; rfl
theorem EnvOk.rd (I : EnvOk K mg T env σ H A) (o : Ow K mg (SA A T) σ H B v d) (h : rd env d = some e) : ∃ B', Ow K mg (SA A T) σ H B' v e := by
  cases d with
  | bor i =>
    simp only [Dn.rd] at h
    split at h
    · rename_i d' e'
      cases h
      obtain ⟨_, u, s, o'⟩ := I.slot i _ e'
      cases o with
      | bor s' =>
        rw [s'] at s
        cases s
        exact ⟨_, o'⟩
    · cases h
  | _ => simp only [Dn.rd] at h; cases h; exact ⟨_, o⟩
theorem Ow.seqL (o : Ow K mg S σ H B v e) (h : seqL e = some ds) : ∃ a vs B', v = .ref a ∧ SqL K H a vs ∧ OwL K mg S σ H B' vs ds := by
  cases e with
  | lst xs =>
    cases h
    cases o with
    | lst i l => exact ⟨_, _, _, rfl, i.sq, l⟩
  | scr xs =>
    cases h
    cases o with
    | scr i l => exact ⟨_, _, _, rfl, i.sq, l⟩
  | own xs =>
    cases h
    cases o with
    | own i n l => exact ⟨_, _, _, rfl, .inl (.inl i), l⟩
  | _ => cases h
theorem Ow.seqM (o : Ow K mg S σ H B v e) (h : seqM e = some ds) : ∃ a vs B', v = .ref a ∧ H a = some (.lst vs) ∧ OwL K mg S σ H B' vs ds := by
  cases e with
  | lst xs =>
    cases h
    cases o with
    | lst i l => exact ⟨_, _, _, rfl, i.2, l⟩
  | own xs =>
    cases h
    cases o with
    | own i n l => exact ⟨_, _, _, rfl, i, l⟩
  | _ => cases h
theorem Ow.seqT (o : Ow K mg S σ H B v e) (h : seqT e = some ds) : ∃ a vs B', v = .ref a ∧ ImT K S H a vs ∧ OwL K mg S σ H B' vs ds := by
  cases e with
  | tup xs =>
    cases h
    cases o with
    | tup i l => exact ⟨_, _, _, rfl, i, l⟩
  | _ => cases h
theorem EnvOk.rdL (I : EnvOk K mg T env σ H A) (o : Ow K mg (SA A T) σ H B v d) (h : rdL env d = some ds) : ∃ a vs B', v = .ref a ∧ SqL K H a vs ∧ OwL K mg (SA A T) σ H B' vs ds := by
  unfold Dn.rdL at h
  obtain ⟨e, h1, h2⟩ := Option.bind_eq_some_iff.mp h
  obtain ⟨B', o'⟩ := I.rd o h1
  exact o'.seqL h2
theorem EnvOk.rdM (I : EnvOk K mg T env σ H A) (o : Ow K mg (SA A T) σ H B v d) (h : rdM env d = some ds) : ∃ a vs B', v = .ref a ∧ H a = some (.lst vs) ∧ OwL K mg (SA A T) σ H B' vs ds := by
  unfold Dn.rdM at h
  obtain ⟨e, h1, h2⟩ := Option.bind_eq_some_iff.mp h
  obtain ⟨B', o'⟩ := I.rd o h1
  exact o'.seqM h2
theorem EnvOk.rdT (I : EnvOk K mg T env σ H A) (o : Ow K mg (SA A T) σ H B v d) (h : rdT env d = some ds) : ∃ a vs B', v = .ref a ∧ ImT K (SA A T) H a vs ∧ OwL K mg (SA A T) σ H B' vs ds := by
  unfold Dn.rdT at h
  obtain ⟨e, h1, h2⟩ := Option.bind_eq_some_iff.mp h
  obtain ⟨B', o'⟩ := I.rd o h1
  exact o'.seqT h2
/-- bare things beside a new object -/
theorem OwL.anew {p : Addr} {ho : HO} (o : OwL K mg (SA A (TB T B)) σ H [] vs ds) (hp : H p = none) : OwL K mg (SA A (TB T [p])) σ (upd H p ho) [] vs ds :=
  o.chg (Bp := fun _ => True) ⟨fun b u e _ => by rw [upd_ne (ne_of_none e hp)]; exact e, fun b z y => by
    rcases y with (y | y) | y
    · exact .inl (.inl y)
    · rw [List.mem_singleton] at y
      subst y
      exact absurd hp z
    · exact .inr y⟩ (fun _ _ => trivial) fun _ _ e => .inr e
theorem OwL.anew0 {p : Addr} {ho : HO} (o : OwL K mg (SA A (TB T B)) σ H [] vs ds) (hp : H p = none) : OwL K mg (SA A (TB T [])) σ (upd H p ho) [] vs ds :=
  o.chg (Bp := fun _ => True) ⟨fun b u e _ => by rw [upd_ne (ne_of_none e hp)]; exact e, fun b z y => by
    rcases y with (y | y) | y
    · exact .inl (.inl y)
    · cases y
    · exact .inr y⟩ (fun _ _ => trivial) fun _ _ e => .inr e
theorem keep_new {p : Addr} {ho : HO} (hp : H p = none) : ∀ b o, H b = some o → upd H p ho b = some o := fun b o e => by rw [upd_ne (ne_of_none e hp)]; exact e
theorem new_one {p : Addr} (hp : H p = none) : ∀ q ∈ [p], H q = none := fun q hq => by rw [List.mem_singleton] at hq; subst hq; exact hp
theorem OwL.app : ∀ {B : List Addr} {vs us : List V} {ds es : List D}, OwL K mg S σ H B vs ds → B = [] → OwL K mg S σ H [] us es → OwL K mg S σ H [] (vs ++ us) (ds ++ es)
  | _, _, _, _, _, .nil, _, q => q
  | _, _, _, _, _, .cons o l n, h, q => by
    obtain ⟨h1, h2⟩ := List.append_eq_nil_iff.mp h
    subst h1
    exact OwL.cons (A := []) (B := []) o (OwL.app l h2 q) (by simp)
theorem plainL_append (a b : List D) : plainL (a ++ b) = (plainL a && plainL b) := by
  induction a with
  | nil => rfl
  | cons d a ih => simp only [List.cons_append, plainL, ih, Bool.and_assoc]
/-- any part of bare things -/
theorem OwL.of_all : ∀ {vs : List V} {ds : List D}, vs.length = ds.length → (∀ (i : Nat) (v : V) (d : D), vs[i]? = some v → ds[i]? = some d → Ow K mg S σ H [] v d) → OwL K mg S σ H [] vs ds
  | [], [], _, _ => .nil
  | v :: vs, d :: ds, hl, h => OwL.cons (A := []) (B := []) (h 0 v d (by simp) (by simp)) (OwL.of_all (by simpa using hl) fun i u e h1 h2 => h (i + 1) u e (by simpa using h1) (by simpa using h2)) (by simp)
  | [], _ :: _, hl, _ => by simp at hl
  | _ :: _, [], hl, _ => by simp at hl
theorem plainL_get {ds : List D} (h : plainL ds = true) {i : Nat} {d : D} (e : ds[i]? = some d) : plain d = true := by
  induction ds generalizing i with
  | nil => simp at e
  | cons x ds ih =>
    simp only [plainL, Bool.and_eq_true] at h
    cases i with
    | zero => simp at e; subst e; exact h.1
    | succ i => exact ih h.2 (by simpa using e)
theorem OwL.at {ds : List D} (o : OwL K mg S σ H B vs ds) (h : plainL ds = true) {i : Nat} {v : V} {d : D} (e1 : vs[i]? = some v) (e2 : ds[i]? = some d) : Ow K mg S σ H [] v d := by
  obtain ⟨u, B', h1, h2, _⟩ := o.get e2
  rw [e1] at h1
  cases h1
  rw [h2.bare (plainL_get h e2)] at h2
  exact h2
theorem OwL.part (o : OwL K mg S σ H B vs ds) (h : plainL ds = true) (f : Nat → Nat) {n : Nat} {us : List V} {es : List D} (h1 : us.length = n) (h2 : es.length = n) (hu : ∀ i, i < n → us[i]? = vs[f i]?) (he : ∀ i, i < n → es[i]? = ds[f i]?) : OwL K mg S σ H [] us es := by
  refine .of_all (h1.trans h2.symm) fun i v d e1 e2 => ?_
  have hi : i < n := by rw [← h1]; exact (List.getElem?_eq_some_iff.mp e1).1
  rw [hu i hi] at e1
  rw [he i hi] at e2
  exact o.at h e1 e2
end

/-! ### arithmetic -/
def fAdd (env : Env) : List D → Option D
  | [.int i, .int j] => some (.int (i + j))
  | [.int i, .bl k] => some (.int (i + PyProof.Rows.b2i k))
  | [.str x, .str y] => if x.length + y.length ≤ sizeLine then some (.str (x ++ y)) else none
  | [d, e] => match rdM env d, rdM env e with
    | some xs, some ys => if plainL xs = true ∧ plainL ys = true ∧ xs.length + ys.length ≤ sizeLine then some (.own (xs ++ ys)) else none
    | _, _ => match rdT env d, rdT env e with
      | some xs, some ys => if plainL xs = true ∧ plainL ys = true ∧ xs.length + ys.length ≤ sizeLine then some (.tup (xs ++ ys)) else none
      | _, _ => none
  | _ => none
/-- an op on two ints -/
def fII (C : Int → Int → Prop) [∀ i j, Decidable (C i j)] (g : Int → Int → D) (_ : Env) : List D → Option D
  | [.int i, .int j] => if C i j then some (g i j) else none
  | _ => none
section
variable {X : Cx} {W : WX}
theorem rOr {r r' : R2} : r2 (fun x y H Q => r x y H Q ∨ r' x y H Q) = fun vs H Q => r2 r vs H Q ∨ r2 r' vs H Q := by
  funext vs H Q
  unfold r2
  split
  · rfl
  · simp
theorem pr_add : PureR X (r2 fun x y H Q => rI0 (fun i j => .int (i + j)) x y H Q ∨ (∃ i k, x = .int i ∧ y = .bl k ∧ Q (.int (i + PyProof.Rows.b2i k)) H) ∨
    (∃ i j, x = .str i ∧ y = .str j ∧ i.length + j.length ≤ sizeLine ∧ Q (.str (i ++ j)) H) ∨ rCat x y H Q ∨ rCatA X.K x y H Q) fAdd := by
  intro T env σ H A B vs ds d Q I o hf q
  unfold fAdd at hf
  split at hf
  · cases hf
    obtain ⟨v, u, B1, B2, rfl, o1, o2, _, _⟩ := o.inv2
    exact .inl ⟨_, _, o1.intv, o2.intv, q _ _ [] (fun _ _ e => e) (by simp) (.int _)⟩
  · cases hf
    obtain ⟨v, u, B1, B2, rfl, o1, o2, _, _⟩ := o.inv2
    exact .inr (.inl ⟨_, _, o1.intv, o2.blv, q _ _ [] (fun _ _ e => e) (by simp) (.int _)⟩)
  · split at hf
    · rename_i hz
      cases hf
      obtain ⟨v, u, B1, B2, rfl, o1, o2, _, _⟩ := o.inv2
      exact .inr (.inr (.inl ⟨_, _, o1.strv, o2.strv, hz, q _ _ [] (fun _ _ e => e) (by simp) (.str _)⟩))
    · cases hf
  · obtain ⟨v, u, B1, B2, rfl, o1, o2, _, _⟩ := o.inv2
    split at hf
    · rename_i xs ys e1 e2
      split at hf
      · rename_i hz
        cases hf
        obtain ⟨a, ws, C1, rfl, h1, l1⟩ := I.rdM o1 e1
        obtain ⟨b, us, C2, rfl, h2, l2⟩ := I.rdM o2 e2
        have z1 := l1.bare hz.1
        have z2 := l2.bare hz.2.1
        subst z1 z2
        refine .inr (.inr (.inr (.inl ⟨a, b, ws, us, rfl, rfl, h1, h2, by rw [l1.length, l2.length]; exact hz.2.2, fun p hp => ?_⟩)))
        exact q _ _ [p] (keep_new hp) (new_one hp) (.own upd_same (by simp) ((l1.app rfl l2).anew hp))
      · cases hf
    · split at hf
      · rename_i xs ys e1 e2
        split at hf
        · rename_i hz
          cases hf
          obtain ⟨a, ws, C1, rfl, h1, l1⟩ := I.rdT o1 e1
          obtain ⟨b, us, C2, rfl, h2, l2⟩ := I.rdT o2 e2
          have z1 := l1.bare hz.1
          have z2 := l2.bare hz.2.1
          subst z1 z2
          have sub : ∀ p, SA A (TB T []) p → SA A (TB T B) p := fun p z => z.imp (fun z => z.imp id fun z => by cases z) id
          refine .inr (.inr (.inr (.inr ⟨a, b, ws, us, rfl, rfl, h1.sq, h2.sq, by rw [l1.length, l2.length]; exact hz.2.2, fun ex => ?_, fun nx ey => ?_, fun nx ny p hp => ?_⟩)))
          · have ez : xs = [] := List.eq_nil_of_length_eq_zero (by rw [← l1.length, ex]; rfl)
            subst ez
            exact q _ _ [] (fun _ _ e => e) (by simp) ((Ow.tup h2 l2).weak sub)
          · have ez : ys = [] := List.eq_nil_of_length_eq_zero (by rw [← l2.length, ey]; rfl)
            subst ez
            refine q _ _ [] (fun _ _ e => e) (by simp) ?_
            rw [List.append_nil]
            exact (Ow.tup h1 l1).weak sub
          · refine q _ _ [] (keep_new hp) (by simp) (.tup (.inl ⟨fun z => ?_, .inl upd_same⟩) ((l1.app rfl l2).anew0 hp))
            exact I.there p (sub p z) hp
        · cases hf
      · cases hf
  · cases hf
theorem de_add {a b : Expr} {pos : Pos} {f g : Env → Out D} (ha : DE X W a f) (hb : DE X W b g) : DE X W (.BinOp a .Add b pos) (dOp fAdd (dCons f (dCons g dNil))) := by
  obtain ⟨t, p, s⟩ := ha
  obtain ⟨u, p', s'⟩ := hb
  exact ⟨_, pe_op (op_add.or (op_add_ib.or (op_add_str.or (op_cat.or op_catA)))) p p', se_op s s' pr_add⟩
theorem pr_II {C : Int → Int → Prop} [∀ i j, Decidable (C i j)] {g : Int → Int → V} {g' : Int → Int → D} (h : ∀ i j K mg S σ H, Ow K mg S σ H [] (g i j) (g' i j)) : PureR X (r2 (rI C g)) (fII C g') := by
  intro T env σ H A B vs ds d Q I o hf q
  unfold fII at hf
  split at hf
  · split at hf
    · rename_i hc
      cases hf
      obtain ⟨v, u, B1, B2, rfl, o1, o2, _, _⟩ := o.inv2
      exact ⟨_, _, o1.intv, o2.intv, hc, q _ _ [] (fun _ _ e => e) (by simp) (h _ _ _ _ _ _ _)⟩
    · cases hf
  · cases hf
theorem pr_I0 {g : Int → Int → V} {g' : Int → Int → D} (h : ∀ i j K mg S σ H, Ow K mg S σ H [] (g i j) (g' i j)) : PureR X (r2 (rI0 g)) (fII (fun _ _ => True) g') := by
  intro T env σ H A B vs ds d Q I o hf q
  unfold fII at hf
  split at hf
  · rw [if_pos trivial] at hf
    cases hf
    obtain ⟨v, u, B1, B2, rfl, o1, o2, _, _⟩ := o.inv2
    exact ⟨_, _, o1.intv, o2.intv, q _ _ [] (fun _ _ e => e) (by simp) (h _ _ _ _ _ _ _)⟩
  · cases hf
theorem de_II {a b : Expr} {op : Operator} {pos : Pos} {f g : Env → Out D} {r : R2} {F : Env → List D → Option D} (ho : OpR X (binaryOp op) r) (hp : PureR X (r2 r) F) (ha : DE X W a f) (hb : DE X W b g) : DE X W (.BinOp a op b pos) (dOp F (dCons f (dCons g dNil))) := by
  obtain ⟨t, p, s⟩ := ha
  obtain ⟨u, p', s'⟩ := hb
  exact ⟨_, pe_op ho p p', se_op s s' hp⟩
/-- powers of great numbers -/
def CPowW (i j : Int) : Prop := 0 ≤ j ∧ (i.natAbs.log2 + 1 : Nat) * j ≤ 2 ^ 27
instance (i j : Int) : Decidable (CPowW i j) := by unfold CPowW; infer_instance
theorem op_powW : OpR X (binaryOp .Pow) (rI CPowW fun i j => .int (i ^ j.toNat)) := opI fun i j t u Q s E hc q => by
  refine PyProof.Rows.pow_int hc.1 ?_ q
  have hb : (Builtin.Int.intBits i : Int) ≤ (i.natAbs.log2 + 1 : Nat) := by
    unfold Builtin.Int.intBits
    split <;> omega
  exact Int.le_trans (Int.mul_le_mul_of_nonneg_right hb hc.1) hc.2
instance (i j : Int) : Decidable (CMulW i j) := by unfold CMulW; infer_instance
instance (i j : Int) : Decidable (CDivW i j) := by unfold CDivW; infer_instance
abbrev fSub := fII (fun _ _ => True) fun i j => .int (i - j)
abbrev fMulI := fII CMulW fun i j => .int (i * j)
abbrev fDiv := fII CDivW fun i j => .int (i / j)
abbrev fMod := fII (fun _ j => 0 < j) fun i j => .int (i % j)
abbrev fPow := fII CPowW fun i j => .int (i ^ j.toNat)
theorem de_sub {a b : Expr} {pos : Pos} {f g : Env → Out D} (ha : DE X W a f) (hb : DE X W b g) : DE X W (.BinOp a .Sub b pos) (dOp fSub (dCons f (dCons g dNil))) := de_II op_sub (pr_I0 fun _ _ _ _ _ _ _ => .int _) ha hb
theorem de_fdiv {a b : Expr} {pos : Pos} {f g : Env → Out D} (ha : DE X W a f) (hb : DE X W b g) : DE X W (.BinOp a .FloorDiv b pos) (dOp fDiv (dCons f (dCons g dNil))) := de_II op_fdivW (pr_II fun _ _ _ _ _ _ _ => .int _) ha hb
theorem de_mod {a b : Expr} {pos : Pos} {f g : Env → Out D} (ha : DE X W a f) (hb : DE X W b g) : DE X W (.BinOp a .Mod b pos) (dOp fMod (dCons f (dCons g dNil))) := de_II op_mod (pr_II fun _ _ _ _ _ _ _ => .int _) ha hb
theorem de_pow {a b : Expr} {pos : Pos} {f g : Env → Out D} (ha : DE X W a f) (hb : DE X W b g) : DE X W (.BinOp a .Pow b pos) (dOp fPow (dCons f (dCons g dNil))) := de_II op_powW (pr_II fun _ _ _ _ _ _ _ => .int _) ha hb
/-- products; a list, a text times an int -/
def fMul (env : Env) : List D → Option D
  | [.int i, .int j] => if CMulW i j then some (.int (i * j)) else none
  | [d, .int k] => match rdM env d with
    | some xs => if plainL xs = true ∧ -(2 ^ 63) ≤ k ∧ k < 2 ^ 63 ∧ xs.length * k.toNat ≤ sizeLine then some (.own (List.replicate k.toNat xs).flatten) else none
    | none => none
  | _ => none
theorem OwL.rep {K : PySem.W.Frag} {mg : Str → Option Value} {S : Addr → Prop} {σ : St} {H : Hp} {vs : List V} {ds : List D} (o : OwL K mg S σ H [] vs ds) : ∀ k : Nat, OwL K mg S σ H [] (List.replicate k vs).flatten (List.replicate k ds).flatten
  | 0 => .nil
  | k + 1 => by
    rw [List.replicate_succ, List.flatten_cons, List.replicate_succ, List.flatten_cons]
    exact o.app rfl (OwL.rep o k)
theorem pr_mul : PureR X (r2 fun x y H Q => rI CMulW (fun i j => .int (i * j)) x y H Q ∨ rRep x y H Q) fMul := by
  intro T env σ H A B vs ds d Q I o hf q
  unfold fMul at hf
  split at hf
  · split at hf
    · rename_i hc
      cases hf
      obtain ⟨v, u, B1, B2, rfl, o1, o2, _, _⟩ := o.inv2
      exact .inl ⟨_, _, o1.intv, o2.intv, hc, q _ _ [] (fun _ _ e => e) (by simp) (.int _)⟩
    · cases hf
  · split at hf
    · rename_i xs e1
      split at hf
      · rename_i hz
        cases hf
        obtain ⟨v, u, B1, B2, rfl, o1, o2, _, _⟩ := o.inv2
        obtain ⟨a, ws, C1, rfl, h1, l1⟩ := I.rdM o1 e1
        have z1 := l1.bare hz.1
        subst z1
        refine .inr ⟨a, _, ws, rfl, o2.intv, h1, hz.2.1, hz.2.2.1, by rw [l1.length]; exact hz.2.2.2, fun p hp => ?_⟩
        exact q _ _ [p] (keep_new hp) (new_one hp) (.own upd_same (by simp) ((l1.rep _).anew hp))
      · cases hf
    · cases hf
  · cases hf
theorem de_mul {a b : Expr} {pos : Pos} {f g : Env → Out D} (ha : DE X W a f) (hb : DE X W b g) : DE X W (.BinOp a .Mult b pos) (dOp fMul (dCons f (dCons g dNil))) := de_II (op_mulW.or op_rep) pr_mul ha hb
def fNeg (_ : Env) : List D → Option D
  | [.int i] => some (.int (-i))
  | _ => none
theorem de_neg {a : Expr} {pos : Pos} {f : Env → Out D} (ha : DE X W a f) : DE X W (.UnaryOp .USub a pos) (dOp fNeg (dCons f dNil)) := by
  obtain ⟨t, p, s⟩ := ha
  refine ⟨_, pe_un un_neg p, se_un s ?_⟩
  intro T env σ H A B vs ds d Q I o hf q
  unfold fNeg at hf
  split at hf
  · cases hf
    obtain ⟨v, B1, rfl, o1, _⟩ := o.inv1
    exact ⟨_, o1.intv, q _ _ [] (fun _ _ e => e) (by simp) (.int _)⟩
  · cases hf
end
end Dn
/-! Dn5: tests, comparisons. -/
namespace Dn
open PySem PySem.Spec L2

/-! ### tests -/
def dB (f : Env → Out D) : Env → Out Bool := fun env => (f env).bind fun d env' => match d with
  | .bl b => .ok b env'
  | _ => .bad
def truD (env : Env) (d : D) : Option Bool := match rd env d with
  | some .non => some false
  | some (.bl b) => some b
  | some (.int i) => some (i != 0)
  | some (.str y) => if y.length ≤ sizeLine then some ((y.length : Int) != 0) else none
  | some (.lst xs) => some (!xs.isEmpty)
  | some (.own xs) => some (!xs.isEmpty)
  | some (.scr xs) => some (!xs.isEmpty)
  | some (.tup xs) => some (!xs.isEmpty)
  | _ => none
def dTru (f : Env → Out D) : Env → Out Bool := fun env => (f env).bind fun d env' => match truD env' d with
  | some b => .ok b env'
  | none => .bad
def dAnd (f g : Env → Out Bool) : Env → Out Bool := fun env => (f env).bind fun b env' => if b = true then g env' else .ok false env'
def dOr (f g : Env → Out Bool) : Env → Out Bool := fun env => (f env).bind fun b env' => if b = true then .ok true env' else g env'
def dNot (f : Env → Out Bool) : Env → Out Bool := fun env => (f env).bind fun b env' => .ok (!b) env'
def dAndV (f g : Env → Out D) : Env → Out D := fun env => (f env).bind fun d env' => match d with
  | .bl true => g env'
  | .bl false => .ok (.bl false) env'
  | _ => .bad
def dOrV (f g : Env → Out D) : Env → Out D := fun env => (f env).bind fun d env' => match d with
  | .bl true => .ok (.bl true) env'
  | .bl false => g env'
  | _ => .bad
def dNotV (f : Env → Out D) : Env → Out D := fun env => (f env).bind fun d env' => match d with
  | .bl b => .ok (.bl (!b)) env'
  | _ => .bad
def dIf (c : Env → Out Bool) (f g : Env → Out D) : Env → Out D := fun env => (c env).bind fun b env' => if b = true then f env' else g env'
section
variable {X : Cx} {W : WX} {T : Addr → Prop} {env : Env} {A A1 : Nat → List Addr} {B1 : List Addr} {σ : St} {H H1 : Hp} {f g : Env → Out D} {p q : Env → Out Bool} {t u : TE} {tt uu : TT}
/-- the first step of a bind -/
theorem WD.step {β : Type} {o : Out D} {Q : VK} {k : D → Env → Out β} (he : ∀ x env', o = .err x env' → WErr X W T A σ H x env') (hb : o ≠ .bad)
    (h : ∀ d env1, o = .ok d env1 → ∀ v H1 A1 B1, Moved A A1 B1 H H1 → EnvOk X.K X.mg (TB T B1) env1 σ H1 A1 → Ow X.K X.mg (SA A1 (TB T B1)) σ H1 B1 v d → Q v H1) : WD X W T A σ H o Q := by
  cases o with
  | ok d env' => exact fun v H' A' B m e w => h d env' rfl v H' A' B m e w
  | err x env' => exact he x env' rfl
  | bad => exact hb rfl
theorem st_dB (hs : SE X W t f) : ST X W (tTest t) (dB f) := fun T env σ H A Q I h => by
  refine hs T env σ H A _ I ?_
  unfold dB at h
  cases e : f env with
  | bad => rw [e] at h; exact h
  | err x env' => rw [e] at h; exact h
  | ok d env' =>
    rw [e, Out.bind_ok] at h
    intro v H' A' B m I' o
    split at h
    · cases o
      exact ⟨_, rfl, h H' A' (m.fewer fun p z => by cases z) I'.drop⟩
    · exact h.elim
theorem OwL.empt {K : PySem.W.Frag} {mg : Str → Option Value} {S : Addr → Prop} {B : List Addr} {vs : List V} {ds : List D} (l : OwL K mg S σ H B vs ds) : (!ds.isEmpty) = !vs.isEmpty := by
  cases l <;> rfl
/-- what a truth is asked of -/
theorem tru_of {d : D} {v : V} {b : Bool} {B : List Addr} (I : EnvOk X.K X.mg T env σ H A) (o : Ow X.K X.mg (SA A T) σ H B v d) (h : truD env d = some b) : TruV X.K v H b := by
  unfold truD at h
  cases e : rd env d with
  | none => rw [e] at h; cases h
  | some d' =>
    obtain ⟨B', o'⟩ := I.rd o e
    rw [e] at h
    cases o' with
    | non => cases h; rfl
    | bl x => cases h; rfl
    | int x => cases h; rfl
    | str x =>
      simp only at h
      split at h
      · cases h
        rename_i hz
        exact ⟨hz, rfl⟩
      · cases h
    | tup i l => cases h; exact .inr (.inl ⟨_, i.sq, l.empt⟩)
    | lst i l => cases h; exact .inl ⟨_, i.sq, l.empt⟩
    | own i n l => cases h; exact .inl ⟨_, .inl (.inl i), l.empt⟩
    | scr i l => cases h; exact .inl ⟨_, i.sq, l.empt⟩
    | dic i l => cases h
    | odic i g n l => cases h
    | bor i => cases h
theorem st_tru (hs : SE X W t f) : ST X W (fun σ H Q => t σ H fun x H1 => ∃ k, TruV X.K x H1 k ∧ Q k H1) (dTru f) := fun T env σ H A Q I h => by
  refine hs T env σ H A _ I ?_
  unfold dTru at h
  cases e : f env with
  | bad => rw [e] at h; exact h
  | err x env' => rw [e] at h; exact h
  | ok d env' =>
    rw [e, Out.bind_ok] at h
    intro v H' A' B m I' o
    cases et : truD env' d with
    | none => rw [et] at h; exact h.elim
    | some b =>
      rw [et] at h
      exact ⟨b, tru_of I' o et, h H' A' (m.fewer fun p z => by cases z) I'.drop⟩
theorem st_and (hp : ST X W tt p) (hq : ST X W uu q) : ST X W (tAnd tt uu) (dAnd p q) := fun T env σ H A Q I h => by
  refine hp T env σ H A _ I ?_
  unfold dAnd at h
  cases e : p env with
  | bad => rw [e] at h; exact h
  | err x env' => rw [e] at h; exact h
  | ok b env' =>
    rw [e, Out.bind_ok] at h
    intro H' A' m I'
    cases b with
    | true =>
      rw [if_pos rfl] at h ⊢
      refine hq T env' σ H' A' Q I' ?_
      have h' := h.re m
      revert h'
      cases q env' with
      | bad => exact id
      | err x env2 => exact fun h' H2 A2 n I2 => h' H2 A2 n (I2.weak tbn)
      | ok b env2 => exact fun h' H2 A2 n I2 => h' H2 A2 n (I2.weak tbn)
    | false => exact h H' A' m I'
theorem st_or (hp : ST X W tt p) (hq : ST X W uu q) : ST X W (tOr tt uu) (dOr p q) := fun T env σ H A Q I h => by
  refine hp T env σ H A _ I ?_
  unfold dOr at h
  cases e : p env with
  | bad => rw [e] at h; exact h
  | err x env' => rw [e] at h; exact h
  | ok b env' =>
    rw [e, Out.bind_ok] at h
    intro H' A' m I'
    cases b with
    | false =>
      rw [if_neg Bool.false_ne_true] at h ⊢
      refine hq T env' σ H' A' Q I' ?_
      have h' := h.re m
      revert h'
      cases q env' with
      | bad => exact id
      | err x env2 => exact fun h' H2 A2 n I2 => h' H2 A2 n (I2.weak tbn)
      | ok b env2 => exact fun h' H2 A2 n I2 => h' H2 A2 n (I2.weak tbn)
    | true => exact h H' A' m I'
theorem st_not (hp : ST X W tt p) : ST X W (tNot tt) (dNot p) := fun T env σ H A Q I h => by
  refine hp T env σ H A _ I ?_
  unfold dNot at h
  cases e : p env with
  | bad => rw [e] at h; exact h
  | err x env' => rw [e] at h; exact h
  | ok b env' => rw [e, Out.bind_ok] at h; exact h
/-- behind a step that leaves nothing, the same wish -/
theorem WD.re0 {o : Out D} {Q : VK} (h : WD X W T A σ H o Q) (m : Moved A A1 [] H H1) : WD X W T A1 σ H1 o Q := by
  cases o with
  | ok d env' => exact fun v H' A' B n e w => h v H' A' B (m.trans n fun p z => .inr (.inl z)) e w
  | err x env' => exact fun H' A' n e => h H' A' (m.trans n fun p z => by cases z) e
  | bad => exact h
theorem se_if {c : TT} {p : Env → Out Bool} (hc : ST X W c p) (ha : SE X W t f) (hb : SE X W u g) : SE X W (tIf c t u) (dIf p f g) := fun T env σ H A Q I h => by
  refine hc T env σ H A _ I ?_
  unfold dIf at h
  cases e : p env with
  | bad => rw [e] at h; exact h
  | err x env' => rw [e] at h; exact h
  | ok b env' =>
    rw [e, Out.bind_ok] at h
    intro H' A' m I'
    cases b with
    | true => exact ha T env' σ H' A' Q I' (h.re0 m)
    | false => exact hb T env' σ H' A' Q I' (h.re0 m)
theorem se_andV (ha : SE X W t f) (hb : SE X W u g) : SE X W (tAndV t u) (dAndV f g) := fun T env σ H A Q I h => by
  refine ha T env σ H A _ I ?_
  unfold dAndV at h
  cases e : f env with
  | bad => rw [e] at h; exact h
  | err x env' => rw [e] at h; exact h
  | ok d env' =>
    rw [e, Out.bind_ok] at h
    intro v H' A' B m I' o
    split at h
    · cases o
      refine ⟨true, rfl, ?_⟩
      rw [if_pos rfl]
      exact hb T env' σ H' A' Q I'.drop (h.re0 (m.fewer fun p z => by cases z))
    · cases o
      refine ⟨false, rfl, ?_⟩
      rw [if_neg Bool.false_ne_true]
      exact (h.re0 (m.fewer fun p z => by cases z)).flat I'.drop (.bl _)
    · exact h.elim
theorem se_orV (ha : SE X W t f) (hb : SE X W u g) : SE X W (tOrV t u) (dOrV f g) := fun T env σ H A Q I h => by
  refine ha T env σ H A _ I ?_
  unfold dOrV at h
  cases e : f env with
  | bad => rw [e] at h; exact h
  | err x env' => rw [e] at h; exact h
  | ok d env' =>
    rw [e, Out.bind_ok] at h
    intro v H' A' B m I' o
    split at h
    · cases o
      refine ⟨true, rfl, ?_⟩
      rw [if_pos rfl]
      exact (h.re0 (m.fewer fun p z => by cases z)).flat I'.drop (.bl _)
    · cases o
      refine ⟨false, rfl, ?_⟩
      rw [if_neg Bool.false_ne_true]
      exact hb T env' σ H' A' Q I'.drop (h.re0 (m.fewer fun p z => by cases z))
    · exact h.elim
theorem se_notV (ha : SE X W t f) : SE X W (tNotV t) (dNotV f) := fun T env σ H A Q I h => by
  refine ha T env σ H A _ I ?_
  unfold dNotV at h
  cases e : f env with
  | bad => rw [e] at h; exact h
  | err x env' => rw [e] at h; exact h
  | ok d env' =>
    rw [e, Out.bind_ok] at h
    intro v H' A' B m I' o
    split at h
    · cases o
      exact ⟨_, rfl, (h.re0 (m.fewer fun p z => by cases z)).flat I'.drop (.bl _)⟩
    · exact h.elim
end
section
variable {X : Cx} {W : WX} {a b : Expr} {rest : List Expr} {pos : Pos} {f g : Env → Out D} {p q : Env → Out Bool}
/-- the reading of a boolean operator's test, whatever its whole is -/
def DW (X : Cx) (W : WX) (e : Expr) (f : Env → Out Bool) : Prop := ∃ t, PW X e t ∧ ST X W t f
theorem DW.t {e : Expr} (h : DW X W e p) : DT X W e p := let ⟨t, a, b⟩ := h; ⟨t, a.pt, b⟩
theorem dt_tru (h : DE X W a f) (he : ∀ whole, isTrue a X.env whole = (do let v ← whole; standAt a.pos; holding [v] (truthy v)) := by intro _; rfl) : DT X W a (dTru f) := let ⟨t, p, s⟩ := h; ⟨_, pt_truth p he, st_tru s⟩
theorem dw_and (ha : DT X W a p) (hb : DW X W (.BoolOp .And (b :: rest) pos) q) : DW X W (.BoolOp .And (a :: b :: rest) pos) (dAnd p q) := let ⟨_, x, y⟩ := ha; let ⟨_, z, w⟩ := hb; ⟨_, pw_and x z, st_and y w⟩
theorem dw_and1 (ha : DT X W a p) : DW X W (.BoolOp .And [a] pos) p := let ⟨_, x, y⟩ := ha; ⟨_, pw_and1 x, y⟩
theorem dw_or (ha : DT X W a p) (hb : DW X W (.BoolOp .Or (b :: rest) pos) q) : DW X W (.BoolOp .Or (a :: b :: rest) pos) (dOr p q) := let ⟨_, x, y⟩ := ha; let ⟨_, z, w⟩ := hb; ⟨_, pw_or x z, st_or y w⟩
theorem dw_or1 (ha : DT X W a p) : DW X W (.BoolOp .Or [a] pos) p := let ⟨_, x, y⟩ := ha; ⟨_, pw_or1 x, y⟩
theorem dt_not (ha : DT X W a p) : DT X W (.UnaryOp .Not a pos) (dNot p) := let ⟨_, x, y⟩ := ha; ⟨_, pt_not x, st_not y⟩
theorem de_if {c : Expr} (hc : DT X W c p) (ha : DE X W a f) (hb : DE X W b g) : DE X W (.IfExp c a b pos) (dIf p f g) := let ⟨_, x, y⟩ := hc; let ⟨_, z, w⟩ := ha; let ⟨_, z', w'⟩ := hb; ⟨_, pe_ifExp x z z', se_if y w w'⟩
theorem de_one {op} (ha : DE X W a f) : DE X W (.BoolOp op [a] pos) f := let ⟨_, x, y⟩ := ha; ⟨_, pe_one x, y⟩
theorem de_and (ha : DE X W a f) (hb : DE X W (.BoolOp .And (b :: rest) pos) g) : DE X W (.BoolOp .And (a :: b :: rest) pos) (dAndV f g) := let ⟨_, x, y⟩ := ha; let ⟨_, z, w⟩ := hb; ⟨_, pe_and x z, se_andV y w⟩
theorem de_or (ha : DE X W a f) (hb : DE X W (.BoolOp .Or (b :: rest) pos) g) : DE X W (.BoolOp .Or (a :: b :: rest) pos) (dOrV f g) := let ⟨_, x, y⟩ := ha; let ⟨_, z, w⟩ := hb; ⟨_, pe_or x z, se_orV y w⟩
theorem de_not (ha : DE X W a f) : DE X W (.UnaryOp .Not a pos) (dNotV f) := let ⟨_, x, y⟩ := ha; ⟨_, pe_not x, se_notV y⟩
end

/-! ### comparisons -/
/-- a comparison by its rule, as a value and as a test -/
structure CmpR (X : Cx) (op : CmpOp) (F : Env → List D → Option D) : Prop where
  ex : ∃ r, OpR X (compareOp op) r ∧ PureR X (r2 r) F
section
variable {X : Cx} {W : WX} {a b c : Expr} {pos : Pos} {f g k : Env → Out D} {op op' : CmpOp} {F F' : Env → List D → Option D}
theorem de_cmp (h : CmpR X op F) (ha : DE X W a f) (hb : DE X W b g) (hm : behindInMarks op b = false) : DE X W (.Compare a [op] [b] pos) (dOp F (dCons f (dCons g dNil))) := let ⟨_, h1, h2⟩ := h.ex; let ⟨_, x, y⟩ := ha; let ⟨_, z, w⟩ := hb; ⟨_, pe_cmpR h1 x z hm, se_op y w h2⟩
theorem dt_cmp (h : CmpR X op F) (ha : DE X W a f) (hb : DE X W b g) (hm : behindInMarks op b = false) : DT X W (.Compare a [op] [b] pos) (dB (dOp F (dCons f (dCons g dNil)))) := let ⟨_, h1, h2⟩ := h.ex; let ⟨_, x, y⟩ := ha; let ⟨_, z, w⟩ := hb; ⟨_, pt_cmpR h1 x z hm, st_dB (se_op y w h2)⟩
abbrev fLt := fII (fun _ _ => True) fun i j => .bl (decide (i < j))
abbrev fLe := fII (fun _ _ => True) fun i j => .bl (decide (i ≤ j))
abbrev fGt := fII (fun _ _ => True) fun i j => .bl (decide (j < i))
abbrev fGe := fII (fun _ _ => True) fun i j => .bl (decide (j ≤ i))
theorem c_lt : CmpR X .Lt fLt := ⟨_, op_lt, pr_I0 fun _ _ _ _ _ _ _ => .bl _⟩
theorem c_le : CmpR X .LtE fLe := ⟨_, op_le, pr_I0 fun _ _ _ _ _ _ _ => .bl _⟩
theorem c_gt : CmpR X .Gt fGt := ⟨_, op_gt, pr_I0 fun _ _ _ _ _ _ _ => .bl _⟩
theorem c_ge : CmpR X .GtE fGe := ⟨_, op_ge, pr_I0 fun _ _ _ _ _ _ _ => .bl _⟩
/-- is None -/
def isNonD : D → Bool
  | .non => true
  | _ => false
def fIsN (env : Env) : List D → Option D
  | [d, .non] => (rd env d).map fun d => .bl (isNonD d)
  | _ => none
def fNotN (env : Env) : List D → Option D
  | [d, .non] => (rd env d).map fun d => .bl (!isNonD d)
  | _ => none
theorem isNon_of {K : PySem.W.Frag} {mg : Str → Option Value} {S : Addr → Prop} {σ : St} {H : Hp} {B : List Addr} {v : V} {d : D} (o : Ow K mg S σ H B v d) (n : ∀ i, d ≠ .bor i) : decide (v = .non) = isNonD d := by
  cases o <;> first | rfl | exact absurd rfl (n _)
theorem rd_nobor {K : PySem.W.Frag} {mg : Str → Option Value} {T : Addr → Prop} {env : Env} {σ : St} {H : Hp} {A : Nat → List Addr} (I : EnvOk K mg T env σ H A) {d e : D} (h : rd env d = some e) : ∀ i, e ≠ .bor i := fun i z => by
  subst z
  cases d with
  | bor j =>
    simp only [rd] at h
    split at h
    · rename_i d' e'
      cases h
      have := (I.slot j _ e').1
      simp [noBor] at this
    · cases h
  | _ => simp [rd] at h
theorem c_isN : CmpR X .Is fIsN := ⟨_, op_isN, by
  intro T env σ H A B vs ds d Q I o hf q
  unfold fIsN at hf
  split at hf
  · obtain ⟨e, h1, h2⟩ := Option.map_eq_some_iff.mp hf
    obtain ⟨v, u, B1, B2, rfl, o1, o2, _, _⟩ := o.inv2
    obtain ⟨B', o'⟩ := I.rd o1 h1
    subst h2
    refine ⟨o2.nonv, ?_⟩
    rw [isNon_of o' (rd_nobor I h1)]
    exact q _ _ [] (fun _ _ e => e) (by simp) (.bl _)
  · cases hf⟩
theorem c_notN : CmpR X .IsNot fNotN := ⟨_, op_notN, by
  intro T env σ H A B vs ds d Q I o hf q
  unfold fNotN at hf
  split at hf
  · obtain ⟨e, h1, h2⟩ := Option.map_eq_some_iff.mp hf
    obtain ⟨v, u, B1, B2, rfl, o1, o2, _, _⟩ := o.inv2
    obtain ⟨B', o'⟩ := I.rd o1 h1
    subst h2
    refine ⟨o2.nonv, ?_⟩
    rw [isNon_of o' (rd_nobor I h1)]
    exact q _ _ [] (fun _ _ e => e) (by simp) (.bl _)
  · cases hf⟩

/-- a < b < c: c is asked if the first holds -/
def dChain (F F' : Env → List D → Option D) (f g k : Env → Out D) : Env → Out D := fun env => (f env).bind fun x env1 => (g env1).bind fun y env2 => match F env2 [x, y] with
  | some (.bl true) => (k env2).bind fun z env3 => match F' env3 [y, z] with
    | some d => .ok d env3
    | none => .bad
  | some (.bl false) => .ok (.bl false) env2
  | _ => .bad
end
end Dn
/-! Dn6: chains, ==, in, subscripts, slices, displays. -/
namespace Dn
open PySem PySem.Spec L2

section
variable {X : Cx} {W : WX} {a b c : Expr} {pos : Pos} {f g k : Env → Out D} {op op' : CmpOp} {F F' : Env → List D → Option D}
/-- a < b < c, ints in the middle -/
def dChn (F F' : Env → List D → Option D) (f g k : Env → Out D) : Env → Out D := fun env => (f env).bind fun x env1 => (g env1).bind fun y env2 => match y, F env2 [x, y] with
  | .int j, some (.bl true) => (k env2).bind fun z env3 => match F' env3 [.int j, z] with
    | some d => .ok d env3
    | none => .bad
  | _, some (.bl false) => .ok (.bl false) env2
  | _, _ => .bad
theorem se_chn {r r' : R2} {ta tb tc : TE} (h1 : PureR X (r2 r) F) (h2 : PureR X (r2 r') F') (ha : SE X W ta f) (hb : SE X W tb g) (hc : SE X W tc k) : SE X W (tChain r r' ta tb tc) (dChn F F' f g k) := fun T env σ H A Q I h => by
  refine ha T env σ H A _ I ?_
  unfold dChn at h
  cases ef : f env with
  | bad => rw [ef] at h; exact h
  | err x env' => rw [ef] at h; exact h
  | ok x env1 =>
    rw [ef, Out.bind_ok] at h
    intro v1 H1 A1 B1 m1 I1 o1
    refine hb (TB T B1) env1 σ H1 A1 _ I1 ?_
    replace h := h.re m1
    cases eg : g env1 with
    | bad => rw [eg] at h; exact h
    | err x env' => rw [eg] at h; exact h
    | ok y env2 =>
      rw [eg, Out.bind_ok] at h
      intro v2 H2 A2 B2 m2 I2 o2
      replace h := h.re m2
      have o1' : OwL X.K X.mg (SA A2 (TB (TB (TB T B1) B2) [])) σ H2 (B1 ++ (B2 ++ [])) [v1, v2] [x, y] := by
        refine .cons ((o1.move m2 (fun p hp => .inr hp) I1.sep).weak fun p z => z.imp (tbn p) id) (.cons (o2.weak fun p z => z.imp (tbn p) id) .nil (by simp)) fun p hp hq => ?_
        rw [List.append_nil] at hq
        rcases m2.new p (.inl hq) with ⟨i, z⟩ | z
        · exact I1.sep i p z (.inr hp)
        · exact o1.there p hp z
      have I2' : EnvOk X.K X.mg (TB (TB (TB T B1) B2) (B1 ++ (B2 ++ []))) env2 σ H2 A2 := I2.weak fun p z => by
        rcases z with z | z
        · exact z
        · rw [List.append_nil] at z
          exact (List.mem_append.mp z).elim (fun z => .inl (.inr z)) .inr
      have o1'' : OwL X.K X.mg (SA A2 (TB (TB (TB T B1) B2) (B1 ++ (B2 ++ [])))) σ H2 (B1 ++ (B2 ++ [])) [v1, v2] [x, y] := o1'.weak fun p z => by
        rcases z with (z | z) | z
        · exact .inl (.inl z)
        · rw [List.append_nil] at z
          exact .inl (.inl ((List.mem_append.mp z).elim (fun z => .inl (.inr z)) .inr))
        · exact .inr z
      split at h
      · rename_i j eF
        refine h1 (TB (TB T B1) B2) env2 σ H2 A2 _ [v1, v2] _ _ _ I2' o1'' eF fun v H3 B' kp nb o => ?_
        cases o
        refine ⟨true, rfl, ?_⟩
        rw [if_pos rfl]
        have I3 : EnvOk X.K X.mg (TB (TB (TB T B1) B2) []) env2 σ H3 A2 := I2.grow kp (by simp) (by simp)
        replace h := h.re (Moved.grown (A := A2) (B := []) kp (by simp))
        refine hc _ env2 σ H3 A2 _ I3 ?_
        cases ek : k env2 with
        | bad => rw [ek] at h; exact h
        | err x env' => rw [ek] at h; exact h
        | ok z env3 =>
          rw [ek, Out.bind_ok] at h
          intro v4 H4 A4 B4 m4 I4 o4
          replace h := h.re m4
          cases e4 : F' env3 [.int j, z] with
          | none => rw [e4] at h; exact h.elim
          | some d =>
            rw [e4] at h
            have ey := o2.intv
            subst ey
            refine h2 (TB (TB (TB (TB T B1) B2) []) B4) env3 σ H4 A4 ([] ++ (B4 ++ [])) [.int j, v4] _ _ _ (I4.weak fun p z => ?_) (.cons (.int j) (.cons (o4.weak fun p z => ?_) .nil (by simp)) (by simp)) e4 fun v H5 B5 k5 n5 o5 => ?_
            · rcases z with z | z
              · exact z
              · rw [List.append_nil, List.nil_append] at z
                exact .inr z
            · rcases z with (z | z) | z
              · exact .inl z
              · rw [List.append_nil, List.nil_append] at z
                exact .inl (.inr z)
              · exact .inr z
            · exact h v H5 A4 B5 (Moved.grown k5 n5) (I4.grow k5 n5 fun p z => o5.there p z) o5
      · rename_i eF
        refine h1 (TB (TB T B1) B2) env2 σ H2 A2 _ [v1, v2] _ _ _ I2' o1'' eF fun v H3 B' kp nb o => ?_
        cases o
        refine ⟨false, rfl, ?_⟩
        rw [if_neg Bool.false_ne_true]
        exact h _ H3 A2 [] (Moved.grown kp (by simp)) (I2.grow kp (by simp) (by simp)) (.bl _)
      · exact h.elim
theorem de_chn (h : CmpR X op F) (h' : CmpR X op' F') (ha : DE X W a f) (hb : DE X W b g) (hc : DE X W c k) (hm : lastMarks [op, op'] [b, c] = false := by with_unfolding_all rfl) : DE X W (.Compare a [op, op'] [b, c] pos) (dChn F F' f g k) := by
  obtain ⟨_, h1, h2⟩ := h.ex
  obtain ⟨_, h3, h4⟩ := h'.ex
  obtain ⟨_, x, y⟩ := ha
  obtain ⟨_, z, w⟩ := hb
  obtain ⟨_, x', y'⟩ := hc
  exact ⟨_, pe_chain h1 h3 x z x' hm, se_chn h2 h4 y w y'⟩
theorem dt_chn (h : CmpR X op F) (h' : CmpR X op' F') (ha : DE X W a f) (hb : DE X W b g) (hc : DE X W c k) (hm : lastMarks [op, op'] [b, c] = false := by with_unfolding_all rfl) : DT X W (.Compare a [op, op'] [b, c] pos) (dB (dChn F F' f g k)) := by
  obtain ⟨_, h1, h2⟩ := h.ex
  obtain ⟨_, h3, h4⟩ := h'.ex
  obtain ⟨_, x, y⟩ := ha
  obtain ⟨_, z, w⟩ := hb
  obtain ⟨_, x', y'⟩ := hc
  exact ⟨_, pt_chain h1 h3 x z x' hm, st_dB (se_chn h2 h4 y w y')⟩
end

/-! ### flat data -/
def flat : D → Bool
  | .non => true
  | .bl _ => true
  | .int _ => true
  | .str _ => true
  | _ => false
def toV : D → V
  | .non => .non
  | .bl b => .bl b
  | .int i => .int i
  | .str x => .str x
  | _ => .non
def eqfl : D → D → Bool
  | .non, .non => true
  | .bl a, .bl b => a == b
  | .bl a, .int b => (if a then 1 else 0) == b
  | .int a, .bl b => a == (if b then 1 else 0)
  | .int a, .int b => a == b
  | .str a, .str b => a == b
  | _, _ => false
theorem eqfl_V : ∀ d e : D, flat d = true → flat e = true → eqV (toV d) (toV e) = eqfl d e := fun d e h h' => by
  cases d <;> first | (simp [flat] at h; done) | (cases e <;> first | (simp [flat] at h'; done) | rfl)
section
variable {K : PySem.W.Frag} {mg : Str → Option Value} {S T : Addr → Prop} {env : Env} {σ : St} {H : Hp} {A : Nat → List Addr} {B : List Addr} {v : V} {vs : List V} {d e : D} {ds : List D}
theorem Ow.flatv (o : Ow K mg S σ H B v d) (h : flat d = true) : v = toV d ∧ flatV v = true ∧ B = [] := by
  cases o <;> first | exact ⟨rfl, rfl, rfl⟩ | (simp [flat] at h; done)
theorem OwL.flatv : ∀ {B : List Addr} {vs : List V} {ds : List D}, OwL K mg S σ H B vs ds → ds.all flat = true → vs = ds.map toV ∧ vs.all flatV = true
  | _, _, _, .nil, _ => ⟨rfl, rfl⟩
  | _, _, _, .cons o l _, h => by
    rw [List.all_cons, Bool.and_eq_true] at h
    obtain ⟨h1, h2, _⟩ := o.flatv h.1
    obtain ⟨h3, h4⟩ := OwL.flatv l h.2
    subst h1 h3
    exact ⟨rfl, by rw [List.all_cons, h2, h4]; rfl⟩

/-! ### data as the library's data -/
mutual
def py : D → PyData
  | .non => .none
  | .bl b => .bool b
  | .int i => .int i
  | .str x => .str x
  | .tup xs => .tuple (pyL xs)
  | .lst xs => .list (pyL xs)
  | .own xs => .list (pyL xs)
  | .scr xs => .list (pyL xs)
  | .dic ks vs => .dict (pyK ks vs)
  | .odic ks vs => .dict (pyK ks vs)
  | .bor _ => .dict []
  | .exc _ _ _ => .dict []
def pyL : List D → List PyData
  | [] => []
  | d :: ds => py d :: pyL ds
def pyK : List Key → List D → List (PyData × PyData)
  | k :: ks, d :: ds => ((match k with | .inl i => .int i | .inr x => .str x), py d) :: pyK ks ds
  | _, [] => []
  | [], _ => []
end
mutual
/-- what is borrowed, as it stands now -/
def sub (env : Env) : D → D
  | .tup xs => .tup (subL env xs)
  | .lst xs => .lst (subL env xs)
  | .own xs => .own (subL env xs)
  | .scr xs => .scr (subL env xs)
  | .dic ks vs => .dic ks (subL env vs)
  | .odic ks vs => .odic ks (subL env vs)
  | .bor i => match env[i]? with
    | some (some d) => d
    | _ => .bor i
  | .exc c ns vs => .exc c ns (subL env vs)
  | .non => .non
  | .bl b => .bl b
  | .int i => .int i
  | .str x => .str x
def subL (env : Env) : List D → List D
  | [] => []
  | d :: ds => sub env d :: subL env ds
end
mutual
theorem sub_id : ∀ d, noBor d = true → sub env d = d
  | .tup xs, h => by rw [sub, subL_id xs (by simpa [noBor] using h)]
  | .lst xs, h => by rw [sub, subL_id xs (by simpa [noBor] using h)]
  | .own xs, h => by rw [sub, subL_id xs (by simpa [noBor] using h)]
  | .scr xs, h => by rw [sub, subL_id xs (by simpa [noBor] using h)]
  | .dic ks xs, h => by rw [sub, subL_id xs (by simpa [noBor] using h)]
  | .odic ks xs, h => by rw [sub, subL_id xs (by simpa [noBor] using h)]
  | .exc c ns xs, h => by rw [sub, subL_id xs (by simpa [noBor] using h)]
  | .bor _, h => by simp [noBor] at h
  | .non, _ => rfl
  | .bl _, _ => rfl
  | .int _, _ => rfl
  | .str _, _ => rfl
theorem subL_id : ∀ ds, noBorL ds = true → subL env ds = ds
  | [], _ => rfl
  | d :: ds, h => by
    simp only [noBorL, Bool.and_eq_true] at h
    rw [subL, sub_id d h.1, subL_id ds h.2]
end
mutual
theorem Ow.dp0 : ∀ {B : List Addr} {v : V} {d : D}, Ow K mg S σ H B v d → noBor d = true → (py d).canLay0 = true → Dp K H v (py d)
  | _, _, _, .non, _, _ => .non
  | _, _, _, .bl b, _, _ => .bl b
  | _, _, _, .int b, _, _ => .int b
  | _, _, _, .str b, _, _ => .str b
  | _, _, _, .tup i l, n, h => by
    rw [py] at h ⊢
    exact .tup i.sq (OwL.dp0 l (by simpa [noBor] using n) (by simpa [PyData.canLay0] using h))
  | _, _, _, .lst i l, n, h => by
    rw [py] at h ⊢
    exact .lst i.sq (OwL.dp0 l (by simpa [noBor] using n) (by simpa [PyData.canLay0] using h))
  | _, _, _, .scr i l, n, h => by
    rw [py] at h ⊢
    exact .lst i.sq (OwL.dp0 l (by simpa [noBor] using n) (by simpa [PyData.canLay0] using h))
  | _, _, _, .own i _ l, n, h => by
    rw [py] at h ⊢
    exact .lst (.inl (.inl i)) (OwL.dp0 l (by simpa [noBor] using n) (by simpa [PyData.canLay0] using h))
  | _, _, _, .dic i l, _, h => by
    rw [py] at h
    simp [PyData.canLay0] at h
  | _, _, _, .odic i g n l, _, h => by
    rw [py] at h
    simp [PyData.canLay0] at h
  | _, _, _, .bor _, n, _ => by simp [noBor] at n
theorem OwL.dp0 : ∀ {B : List Addr} {v : List V} {d : List D}, OwL K mg S σ H B v d → noBorL d = true → PyData.canLayAll0 (pyL d) = true → DpAll K H v (pyL d)
  | _, _, _, .nil, _, _ => .nil
  | _, _, _, .cons a b _, n, h => by
    rw [pyL] at h ⊢
    simp only [PyData.canLayAll0, Bool.and_eq_true] at h
    simp only [noBorL, Bool.and_eq_true] at n
    exact .cons (Ow.dp0 a n.1 h.1) (OwL.dp0 b n.2 h.2)
end
mutual
theorem Ow.dp (I : EnvOk K mg T env σ H A) : ∀ {B : List Addr} {v : V} {d : D}, Ow K mg (SA A T) σ H B v d → (py (sub env d)).canLay0 = true → Dp K H v (py (sub env d))
  | _, _, _, .non, _ => .non
  | _, _, _, .bl b, _ => .bl b
  | _, _, _, .int b, _ => .int b
  | _, _, _, .str b, _ => .str b
  | _, _, _, .tup i l, h => by
    rw [sub, py] at h ⊢
    exact .tup i.sq (OwL.dp I l (by simpa [PyData.canLay0] using h))
  | _, _, _, .lst i l, h => by
    rw [sub, py] at h ⊢
    exact .lst i.sq (OwL.dp I l (by simpa [PyData.canLay0] using h))
  | _, _, _, .scr i l, h => by
    rw [sub, py] at h ⊢
    exact .lst i.sq (OwL.dp I l (by simpa [PyData.canLay0] using h))
  | _, _, _, .own i n l, h => by
    rw [sub, py] at h ⊢
    exact .lst (.inl (.inl i)) (OwL.dp I l (by simpa [PyData.canLay0] using h))
  | _, _, _, .dic i l, h => by
    rw [sub, py] at h
    simp [PyData.canLay0] at h
  | _, _, _, .odic i g n l, h => by
    rw [sub, py] at h
    simp [PyData.canLay0] at h
  | _, _, _, @Ow.bor _ _ _ _ _ i v s, h => by
    rw [sub] at h ⊢
    split at h
    · rename_i d' e'
      obtain ⟨nb, u, s', o'⟩ := I.slot i d' e'
      rw [s] at s'
      cases s'
      exact o'.dp0 nb h
    · simp [py, PyData.canLay0] at h
theorem OwL.dp (I : EnvOk K mg T env σ H A) : ∀ {B : List Addr} {v : List V} {d : List D}, OwL K mg (SA A T) σ H B v d → PyData.canLayAll0 (pyL (subL env d)) = true → DpAll K H v (pyL (subL env d))
  | _, _, _, .nil, _ => .nil
  | _, _, _, .cons a b _, h => by
    rw [subL, pyL] at h ⊢
    simp only [PyData.canLayAll0, Bool.and_eq_true] at h
    exact .cons (Ow.dp I a h.1) (OwL.dp I b h.2)
end
end

/-- == of any data -/
def eqD (d e : D) : Bool := PyData.eqv (py d) (py e)
def lay (d : D) : Bool := SeqAt.shaped (py d)
def scalD (d e : D) : Bool := flat d && flat e && scal (toV d) (toV e)
def fEqB (env : Env) (d e : D) : Option Bool := if scalD d e = true then some (eqfl d e) else
  if lay (sub env d) = true ∧ lay (sub env e) = true then some (eqD (sub env d) (sub env e)) else none
def fEq (env : Env) : List D → Option D
  | [d, e] => (fEqB env d e).map .bl
  | _ => none
def fNe (env : Env) : List D → Option D
  | [d, e] => (fEqB env d e).map fun b => .bl (!b)
  | _ => none
theorem scal_eq : ∀ d e : D, scalD d e = true → decide (toV d = toV e) = eqfl d e := fun d e h => by
  cases d <;> first
    | (simp [scalD, flat] at h; done)
    | (cases e <;> first
        | (simp [scalD, flat, scal, toV] at h; done)
        | rfl
        | exact dec_int
        | exact dec_bl
        | exact dec_str)
section
variable {X : Cx}
theorem pr_eq : PureR X (r2 fun x y H Q => rEq x y H Q ∨ rEqD X.K x y H Q) fEq := by
  intro T env σ H A B vs ds d Q I o hf q
  unfold fEq at hf
  split at hf
  · obtain ⟨b, h1, h2⟩ := Option.map_eq_some_iff.mp hf
    subst h2
    obtain ⟨v, u, B1, B2, rfl, o1, o2, _, _⟩ := o.inv2
    unfold fEqB at h1
    split at h1
    · rename_i hs
      have hs' := hs
      simp only [scalD, Bool.and_eq_true] at hs'
      cases h1
      obtain ⟨e1, _, _⟩ := o1.flatv hs'.1.1
      obtain ⟨e2, _, _⟩ := o2.flatv hs'.1.2
      subst e1 e2
      refine .inl ⟨hs'.2, ?_⟩
      rw [scal_eq _ _ hs]
      exact q _ _ [] (fun _ _ e => e) (by simp) (.bl _)
    · split at h1
      · rename_i hl
        cases h1
        have l1 := SeqAt.canLay_of_shaped hl.1
        have l2 := SeqAt.canLay_of_shaped hl.2
        exact .inr ⟨_, _, o1.dp I l1, o2.dp I l2, hl.1, hl.2, q _ _ [] (fun _ _ e => e) (by simp) (.bl _)⟩
      · cases h1
  · cases hf
theorem pr_ne : PureR X (r2 fun x y H Q => rNe x y H Q ∨ rNeD X.K x y H Q) fNe := by
  intro T env σ H A B vs ds d Q I o hf q
  unfold fNe at hf
  split at hf
  · obtain ⟨b, h1, h2⟩ := Option.map_eq_some_iff.mp hf
    subst h2
    obtain ⟨v, u, B1, B2, rfl, o1, o2, _, _⟩ := o.inv2
    unfold fEqB at h1
    split at h1
    · rename_i hs
      have hs' := hs
      simp only [scalD, Bool.and_eq_true] at hs'
      cases h1
      obtain ⟨e1, _, _⟩ := o1.flatv hs'.1.1
      obtain ⟨e2, _, _⟩ := o2.flatv hs'.1.2
      subst e1 e2
      refine .inl ⟨hs'.2, ?_⟩
      rw [scal_eq _ _ hs]
      exact q _ _ [] (fun _ _ e => e) (by simp) (.bl _)
    · split at h1
      · rename_i hl
        cases h1
        have l1 := SeqAt.canLay_of_shaped hl.1
        have l2 := SeqAt.canLay_of_shaped hl.2
        exact .inr ⟨_, _, o1.dp I l1, o2.dp I l2, hl.1, hl.2, q _ _ [] (fun _ _ e => e) (by simp) (.bl _)⟩
      · cases h1
  · cases hf
theorem c_eq {W : WX} {k : Nat} (Z : Sit X W k) : CmpR X .Eq fEq := ⟨_, op_eq.or (op_eqD Z.room.units), pr_eq⟩
theorem c_ne {W : WX} {k : Nat} (Z : Sit X W k) : CmpR X .NotEq fNe := ⟨_, op_ne.or (op_neD Z.room.units), pr_ne⟩

/-! ### in -/
def keyD : D → Option Key
  | .int i => some (.inl i)
  | .str x => some (.inr x)
  | _ => none
/-- the keys of a dict -/
def dicK : D → Option (List Key)
  | .dic ks _ => some ks
  | .odic ks _ => some ks
  | _ => none
def seqA : D → Option (List D)
  | .tup xs => some xs
  | d => seqL d
def fInB (env : Env) (d c : D) : Option Bool := match d, rd env c with
  | .str x, some (.str y) => match x.cps.toList with
    | [n] => some (decide (n ∈ y.cps.toList))
    | _ => some (!(Builtin.Str.occurrences y x 0 y.length 1).isEmpty)
  | d, some c' => match dicK c', keyD d with
    | some ks, some k => some (ks.any fun q => decide (q = k))
    | some _, none => none
    | none, _ => match seqA c' with
      | some ds => if flat d = true ∧ ds.all flat = true then some (ds.any fun y => eqfl y d) else
        if (seqT c').isNone = true ∧ lay (sub env d) = true ∧ lay c' = true ∧ noBor c' = true then some (ds.any fun y => eqD y (sub env d)) else none
      | none => none
  | _, none => none
def fIn (env : Env) : List D → Option D
  | [d, c] => (fInB env d c).map .bl
  | _ => none
def fNotIn (env : Env) : List D → Option D
  | [d, c] => (fInB env d c).map fun b => .bl (!b)
  | _ => none
end
end Dn
/-! Dn7: in, subscripts, slices, displays, built-in calls. -/
namespace Dn
open PySem PySem.Spec L2

section
variable {K : PySem.W.Frag} {mg : Str → Option Value} {S T : Addr → Prop} {env : Env} {σ : St} {H : Hp} {A : Nat → List Addr} {B : List Addr} {v : V} {vs : List V} {d e : D} {ds : List D}
theorem keyD_V {k : Key} (o : Ow K mg S σ H B v d) (h : keyD d = some k) : v = kV k := by
  cases d <;> first | (simp [keyD] at h; done) | (cases h; cases o; rfl)
theorem Ow.dicv {ks : List Key} (o : Ow K mg S σ H B v d) (h : dicK d = some ks) : ∃ a vs, v = .ref a ∧ H a = some (.dK (ks.zip vs)) ∧ ks.length = vs.length := by
  cases d with
  | dic _ _ =>
    cases h
    cases o with
    | dic i l => exact ⟨_, _, rfl, i.2.1, i.2.2⟩
  | odic _ _ =>
    cases h
    cases o with
    | odic i g n l => exact ⟨_, _, rfl, i, g⟩
  | _ => simp [dicK] at h
theorem zip_any {ks : List Key} : ∀ {vs : List V}, ks.length = vs.length → ∀ k, (valV (ks.zip vs) k).isSome = ks.any fun q => decide (q = k) := by
  induction ks with
  | nil => intro vs _ k; rfl
  | cons q ks ih =>
    intro vs h k
    cases vs with
    | nil => simp at h
    | cons v vs =>
      rw [List.zip_cons_cons, List.any_cons, ← ih (by simpa using h) k]
      by_cases e : q = k
      · rw [valV_pos e]; simp [e]
      · rw [valV_neg e]; simp [e]
theorem Ow.seqA (o : Ow K mg S σ H B v d) (h : seqA d = some ds) : ∃ a vs B', v = .ref a ∧ (SqL K H a vs ∨ SqT K H a vs) ∧ OwL K mg S σ H B' vs ds := by
  cases d with
  | tup xs =>
    cases h
    cases o with
    | tup i l => exact ⟨_, _, _, rfl, .inr i.sq, l⟩
  | lst xs => obtain ⟨a, vs, B', e, q, l⟩ := o.seqL h; exact ⟨a, vs, B', e, .inl q, l⟩
  | own xs => obtain ⟨a, vs, B', e, q, l⟩ := o.seqL h; exact ⟨a, vs, B', e, .inl q, l⟩
  | scr xs => obtain ⟨a, vs, B', e, q, l⟩ := o.seqL h; exact ⟨a, vs, B', e, .inl q, l⟩
  | _ => cases h
theorem any_eqfl : ∀ {ds : List D} {d : D}, flat d = true → ds.all flat = true → inV (toV d) (ds.map toV) = ds.any fun y => eqfl y d
  | [], _, _, _ => rfl
  | e :: ds, d, h, h' => by
    rw [List.all_cons, Bool.and_eq_true] at h'
    have ih := any_eqfl (ds := ds) h h'.2
    unfold inV at ih ⊢
    rw [List.map_cons, List.any_cons, List.any_cons, ih, eqfl_V _ _ h'.1 h]
theorem any_py {d : D} : ∀ {ds : List D}, (ds.any fun y => eqD y d) = (pyL ds).any fun z => PyData.eqv z (py d)
  | [] => rfl
  | e :: ds => by rw [List.any_cons, pyL, List.any_cons, any_py]; rfl
end
section
variable {X : Cx} {W : WX}
theorem op_inK (hu : X.A.units + 1 < cLine) : OpR X (compareOp .In) (fun x y H Q => ∃ a kvs k, y = .ref a ∧ H a = some (.dK kvs) ∧ x = kV k ∧ Q (.bl (valV kvs k).isSome) H) := by
  intro pins s σ H x y v u Q I rx ry ⟨a, kvs, k, e1, e2, e3, q⟩
  subst e1 e3
  cases ry
  exact d_in hu I (DGet.k e2) rx fun s3 I3 => ⟨.bl _, H, I3, rfl, q⟩
theorem op_notInK (hu : X.A.units + 1 < cLine) : OpR X (compareOp .NotIn) (fun x y H Q => ∃ a kvs k, y = .ref a ∧ H a = some (.dK kvs) ∧ x = kV k ∧ Q (.bl (!(valV kvs k).isSome)) H) := by
  intro pins s σ H x y v u Q I rx ry ⟨a, kvs, k, e1, e2, e3, q⟩
  subst e1 e3
  cases ry
  exact d_notIn hu I (DGet.k e2) rx fun s3 I3 => ⟨.bl _, H, I3, rfl, q⟩
theorem one_sign {x y : Str} {n : Nat} (h : x.cps.toList = [n]) : (!(Builtin.Str.occurrences y x 0 y.length 1).isEmpty) = decide (n ∈ y.cps.toList) := by
  have e : x = ⟨#[n]⟩ := by
    obtain ⟨⟨l⟩⟩ := x
    cases h
    rfl
  subst e
  exact PySem.StrLaws.found_one y n
/-- the four ways of in -/
theorem in_ways {T : Addr → Prop} {env : Env} {σ : St} {H : Hp} {A : Nat → List Addr} {B : List Addr} {vs : List V} {x c : D} {b : Bool} (I : EnvOk X.K X.mg T env σ H A) (o : OwL X.K X.mg (SA A T) σ H B vs [x, c]) (h : fInB env x c = some b) :
    ∃ v u, vs = [v, u] ∧ ((∃ i j, v = .str i ∧ u = .str j ∧ b = !(Builtin.Str.occurrences j i 0 j.length 1).isEmpty) ∨ (∃ a kvs k, u = .ref a ∧ H a = some (.dK kvs) ∧ v = kV k ∧ b = (valV kvs k).isSome) ∨
      (∃ p xs, u = .ref p ∧ (SqL X.K H p xs ∨ SqT X.K H p xs) ∧ flatV v = true ∧ xs.all flatV = true ∧ b = inV v xs) ∨
      ∃ d ds, Dp X.K H v d ∧ Dp X.K H u (.list ds) ∧ SeqAt.shaped d = true ∧ SeqAt.shaped (.list ds) = true ∧ b = ds.any fun z => PyData.eqv z d) := by
  obtain ⟨v, u, B1, B2, rfl, o1, o2, _, _⟩ := o.inv2
  refine ⟨v, u, rfl, ?_⟩
  unfold fInB at h
  split at h
  · rename_i x y er
    obtain ⟨B', o'⟩ := I.rd o2 er
    refine .inl ⟨_, _, o1.strv, o'.strv, ?_⟩
    split at h
    · rename_i n hn
      cases h
      exact (one_sign hn).symm
    · cases h; rfl
  · rename_i c' _ er
    obtain ⟨B', o'⟩ := I.rd o2 er
    split at h
    · rename_i ks k e1 e2
      cases h
      obtain ⟨a, ws, rfl, h1, h2⟩ := o'.dicv e1
      exact .inr (.inl ⟨a, _, k, rfl, h1, keyD_V o1 e2, (zip_any h2 k).symm⟩)
    · cases h
    · split at h
      · rename_i ds e3
        obtain ⟨a, ws, B3, rfl, h1, h2⟩ := o'.seqA e3
        split at h
        · rename_i hf
          cases h
          obtain ⟨f1, f2, _⟩ := o1.flatv hf.1
          obtain ⟨f3, f4⟩ := h2.flatv hf.2
          subst f1 f3
          exact .inr (.inr (.inl ⟨a, _, rfl, h1, f2, f4, (any_eqfl hf.1 hf.2).symm⟩))
        · split at h
          · rename_i hl
            cases h
            have l1 := SeqAt.canLay_of_shaped hl.2.1
            have l2 := SeqAt.canLay_of_shaped hl.2.2.1
            have es : py c' = .list (pyL ds) := by
              cases c' <;> first | (cases e3; rfl) | (cases e3; simp [seqT] at hl) | cases e3
            refine .inr (.inr (.inr ⟨_, pyL ds, o1.dp I l1, ?_, hl.2.1, ?_, any_py⟩))
            · rw [← es]; exact o'.dp0 hl.2.2.2 l2
            · rw [← es]; exact hl.2.2.1
          · cases h
      · cases h
  · cases h
theorem c_in {k : Nat} (Z : Sit X W k) : CmpR X .In fIn := ⟨_, op_in_str.or ((op_inK (Nat.lt_of_le_of_lt (Nat.add_le_add_left (by decide : 1 ≤ 64) _) Z.room.units)).or (op_in_seq.or (op_inD (by have := Z.room.un; omega)))), by
  intro T env σ H A B vs ds d Q I o hf q
  unfold fIn at hf
  split at hf
  · obtain ⟨b, h1, h2⟩ := Option.map_eq_some_iff.mp hf
    subst h2
    obtain ⟨v, u, rfl, w⟩ := in_ways I o h1
    have q' := q (.bl b) H [] (fun _ _ e => e) (by simp) (.bl b)
    rcases w with ⟨i, j, rfl, rfl, e⟩ | ⟨a, kvs, k, rfl, h3, rfl, e⟩ | ⟨p, xs, rfl, h3, h4, h5, e⟩ | ⟨d, ds, h3, h4, h5, h6, e⟩
    · subst e; exact .inl ⟨i, j, rfl, rfl, q'⟩
    · subst e; exact .inr (.inl ⟨a, kvs, k, rfl, h3, rfl, q'⟩)
    · subst e; exact .inr (.inr (.inl ⟨p, xs, rfl, h3, h4, h5, q'⟩))
    · subst e; exact .inr (.inr (.inr ⟨d, ds, h3, h4, h5, h6, q'⟩))
  · cases hf⟩
theorem c_notIn {k : Nat} (Z : Sit X W k) : CmpR X .NotIn fNotIn := ⟨_, op_notin_str.or ((op_notInK (Nat.lt_of_le_of_lt (Nat.add_le_add_left (by decide : 1 ≤ 64) _) Z.room.units)).or (op_notIn_seq.or (op_notInD (by have := Z.room.un; omega)))), by
  intro T env σ H A B vs ds d Q I o hf q
  unfold fNotIn at hf
  split at hf
  · obtain ⟨b, h1, h2⟩ := Option.map_eq_some_iff.mp hf
    subst h2
    obtain ⟨v, u, rfl, w⟩ := in_ways I o h1
    have q' := q (.bl (!b)) H [] (fun _ _ e => e) (by simp) (.bl (!b))
    rcases w with ⟨i, j, rfl, rfl, e⟩ | ⟨a, kvs, k, rfl, h3, rfl, e⟩ | ⟨p, xs, rfl, h3, h4, h5, e⟩ | ⟨d, ds, h3, h4, h5, h6, e⟩
    · subst e; exact .inl ⟨i, j, rfl, rfl, q'⟩
    · subst e; exact .inr (.inl ⟨a, kvs, k, rfl, h3, rfl, q'⟩)
    · subst e; exact .inr (.inr (.inl ⟨p, xs, rfl, h3, h4, h5, q'⟩))
    · subst e; exact .inr (.inr (.inr ⟨d, ds, h3, h4, h5, h6, q'⟩))
  · cases hf⟩

/-! ### subscripts -/
def lookK (ks : List Key) (ds : List D) (k : Key) : Option D := ((ks.zip ds).find? fun q => decide (q.1 = k)).map (·.2)
/-- an item: plain things alone are handed out -/
def plO (o : Option D) : Option D := o.bind fun d => if plain d = true then some d else none
def ixD (c i : D) : Option D := match c, i with
  | .str z, .int i => if z.length ≤ sizeLine then (atI z.cps.toList i).map fun n => .str ⟨#[n]⟩ else none
  | .dic ks ds, i => (keyD i).bind fun k => plO (lookK ks ds k)
  | .odic ks ds, i => (keyD i).bind fun k => plO (lookK ks ds k)
  | c, .int i => (seqA c).bind fun ds => plO (atI ds i)
  | _, _ => none
def fIx (env : Env) : List D → Option D
  | [c, i] => (rd env c).bind fun c' => ixD c' i
  | _ => none
theorem OwL.atI {K : PySem.W.Frag} {mg : Str → Option Value} {S : Addr → Prop} {σ : St} {H : Hp} {B : List Addr} {vs : List V} {ds : List D} {i : Int} {d : D} (o : OwL K mg S σ H B vs ds) (h : L2.atI ds i = some d) : ∃ v B', L2.atI vs i = some v ∧ Ow K mg S σ H B' v d ∧ (∀ p ∈ B', p ∈ B) := by
  unfold L2.atI at h ⊢
  rw [o.length]
  obtain ⟨j, h1, h2⟩ := Option.bind_eq_some_iff.mp h
  obtain ⟨v, B', h3, h4, h5⟩ := o.get h2
  exact ⟨v, B', by rw [h1]; exact h3, h4, h5⟩
theorem look_at {K : PySem.W.Frag} {mg : Str → Option Value} {S : Addr → Prop} {σ : St} {H : Hp} : ∀ {B : List Addr} {ks : List Key} {vs : List V} {ds : List D} {k : Key} {d : D}, OwL K mg S σ H B vs ds → lookK ks ds k = some d → ks.length = vs.length → ∃ v B', valV (ks.zip vs) k = some v ∧ Ow K mg S σ H B' v d
  | _, [], _, _, k, d, _, h, _ => by simp [lookK] at h
  | _, q :: ks, _, _, k, d, .nil, h, _ => by simp [lookK] at h
  | _, q :: ks, _, _, k, d, .cons (d := d') o l n, h, hl => by
    unfold lookK at h
    rw [List.zip_cons_cons, List.find?_cons] at h
    by_cases e : q = k
    · simp only [e, decide_true, Option.map_some] at h
      cases h
      exact ⟨_, _, valV_pos e, o⟩
    · simp only [e, decide_false] at h
      obtain ⟨v, B', h1, h2⟩ := look_at l h (by simpa using hl)
      exact ⟨v, B', by rw [List.zip_cons_cons, valV_neg e]; exact h1, h2⟩
def rIxK : R2 := fun x y H Q => ∃ a kvs k v, x = .ref a ∧ H a = some (.dK kvs) ∧ y = kV k ∧ valV kvs k = some v ∧ Q v H
theorem ix_dict (hu : X.A.units + 1 < cLine) : IxR X rIxK := by
  intro value slice pins s σ H x y v u Q I rx ry ⟨a, kvs, k, w, e1, e2, e3, e4, q⟩ hs
  subst e1 e3
  cases rx
  have g : DGet H a (kV k) (some w) := by rw [← e4]; exact DGet.k e2
  have hT := dict_typeIs I g
  unfold PyProof.Rows.subscriptTail
  refine wpAny_bind ?_
  rw [getitemInPython_of_ne hT.not_modules]
  refine wpAny_bind (wpAny_specialOf hT PySem.F.slot_dict_getitem.lookup ?_)
  have goal : wpAny (model X.prog X.w) X.A (subscripted slice false (.ref a) u) (fun r s' => wpAny (model X.prog X.w) X.A (letTemporaryGo value (.ref a) r >>= fun _ => pure r) (EP X pins σ Q) X.xe s') X.xe s := by
    rw [hs]
    refine wpAny_operating ?_
    refine d_getItem hu I g ry fun w' s3 I3 r3 => ?_
    exact wpAny_bind (wpAny_letTemporaryGo (wpAny_pure ⟨w, H, I3, r3, q⟩))
  first
    | exact wpAny_pure (wpAny_bind goal)
    | exact wpAny_bind (wpAny_pure (wpAny_bind goal))
    | exact wpAny_bind goal
theorem plO_some {o : Option D} {d : D} (h : plO o = some d) : o = some d ∧ plain d = true := by
  unfold plO at h
  obtain ⟨e, h1, h2⟩ := Option.bind_eq_some_iff.mp h
  split at h2
  · cases h2
    exact ⟨h1, by assumption⟩
  · cases h2
theorem sa_sub {A : Nat → List Addr} {T : Addr → Prop} {B : List Addr} : ∀ p, SA A (TB T []) p → SA A (TB T B) p := fun p z => z.imp (fun z => z.imp id fun z => by cases z) id
theorem pr_ix : PureR X (r2 fun x y H Q => rIxS x y H Q ∨ rIxK x y H Q ∨ rIxL X.K x y H Q ∨ rIxT X.K x y H Q) fIx := by
  intro T env σ H A B vs ds d Q I o hf q
  unfold fIx at hf
  split at hf
  · obtain ⟨c', h1, h2⟩ := Option.bind_eq_some_iff.mp hf
    obtain ⟨v, u, B1, B2, rfl, o1, o2, _, _⟩ := o.inv2
    obtain ⟨B', o'⟩ := I.rd o1 h1
    have fin : ∀ {v' : V} {B'' : List Addr}, Ow X.K X.mg (SA A (TB T B)) σ H B'' v' d → plain d = true → Q v' H := fun {v' B''} o3 hp => by
      have z := o3.bare hp
      subst z
      exact q _ _ [] (fun _ _ e => e) (by simp) (o3.weak sa_sub)
    unfold ixD at h2
    split at h2
    · split at h2
      · rename_i hz
        obtain ⟨n, h3, h4⟩ := Option.map_eq_some_iff.mp h2
        subst h4
        exact .inl ⟨_, _, n, o'.strv, o2.intv, hz, h3, q _ _ [] (fun _ _ e => e) (by simp) (.str _)⟩
      · cases h2
    · obtain ⟨k, h3, h4⟩ := Option.bind_eq_some_iff.mp h2
      obtain ⟨h5, h6⟩ := plO_some h4
      cases o' with
      | dic i l =>
        obtain ⟨w, B3, h7, h8⟩ := look_at l h5 i.2.2
        exact .inr (.inl ⟨_, _, k, w, rfl, i.2.1, keyD_V o2 h3, h7, fin h8 h6⟩)
    · obtain ⟨k, h3, h4⟩ := Option.bind_eq_some_iff.mp h2
      obtain ⟨h5, h6⟩ := plO_some h4
      cases o' with
      | odic i g n l =>
        obtain ⟨w, B3, h7, h8⟩ := look_at l h5 g
        exact .inr (.inl ⟨_, _, k, w, rfl, i, keyD_V o2 h3, h7, fin h8 h6⟩)
    · obtain ⟨ds, h3, h4⟩ := Option.bind_eq_some_iff.mp h2
      obtain ⟨h5, h6⟩ := plO_some h4
      obtain ⟨a, ws, B3, rfl, h7, l⟩ := o'.seqA h3
      obtain ⟨w, B4, h8, h9, _⟩ := l.atI h5
      rcases h7 with h7 | h7
      · exact .inr (.inr (.inl ⟨a, ws, _, w, rfl, o2.intv, h7, h8, fin h9 h6⟩))
      · exact .inr (.inr (.inr ⟨a, ws, _, w, rfl, o2.intv, h7, h8, fin h9 h6⟩))
    · cases h2
  · cases hf
theorem de_ix {k : Nat} {a b : Expr} {pos : Pos} {f g : Env → Out D} (Z : Sit X W k) (ha : DE X W a f) (hb : DE X W b g) (hs : PlainIx b) : DE X W (.Subscript a b pos) (dOp fIx (dCons f (dCons g dNil))) := by
  obtain ⟨t, p, s⟩ := ha
  obtain ⟨u, p', s'⟩ := hb
  exact ⟨_, pe_ix (ix_str.or ((ix_dict (Nat.lt_of_le_of_lt (Nat.add_le_add_left (by decide : 1 ≤ 64) _) Z.room.units)).or (ix_list.or ix_tup))) p p' hs, se_op s s' pr_ix⟩

/-! ### slices -/
def WO (X : Cx) (W : WX) (T : Addr → Prop) (A : Nat → List Addr) (σ : St) (H : Hp) (o : Out (Option Int)) (Q : Option Int → Hp → Prop) : Prop := match o with
  | .ok b env' => ∀ H' A', Moved A A' [] H H' → EnvOk X.K X.mg T env' σ H' A' → Q b H'
  | .err x env' => WErr X W T A σ H x env'
  | .bad => False
theorem WO.re {T : Addr → Prop} {A A1 : Nat → List Addr} {σ : St} {H H1 : Hp} {B1 : List Addr} {o : Out (Option Int)} {Q : Option Int → Hp → Prop} (h : WO X W T A σ H o Q) (m : Moved A A1 B1 H H1) : WO X W (TB T B1) A1 σ H1 o Q := by
  cases o with
  | ok d env' => exact fun H' A' n e => h H' A' (m.trans n fun p z => by cases z) e.drop
  | err x env' => exact WErr.re h m
  | bad => exact h
def SO (X : Cx) (W : WX) (t : TO) (f : Env → Out (Option Int)) : Prop := ∀ T env σ H A Q, EnvOk X.K X.mg T env σ H A → WO X W T A σ H (f env) Q → t σ H Q
def DP (X : Cx) (W : WX) (e : Option Expr) (f : Env → Out (Option Int)) : Prop := ∃ t, PO X e t ∧ SO X W t f
def dNoP : Env → Out (Option Int) := fun env => .ok none env
def dPart (f : Env → Out D) : Env → Out (Option Int) := fun env => (f env).bind fun d env' => match d with
  | .int i => .ok (some i) env'
  | _ => .bad
theorem dp_none : DP X W none dNoP := ⟨_, po_none, fun T env σ H A Q I h => h H A .refl I⟩
theorem dp_some {e : Expr} {f : Env → Out D} (h : DE X W e f) : DP X W (some e) (dPart f) := by
  obtain ⟨t, p, s⟩ := h
  refine ⟨_, po_some p, fun T env σ H A Q I h => ?_⟩
  refine s T env σ H A _ I ?_
  unfold dPart at h
  cases e : f env with
  | bad => rw [e] at h; exact h
  | err x env' => rw [e] at h; exact h
  | ok d env' =>
    rw [e, Out.bind_ok] at h
    intro v H' A' B m I' o
    split at h
    · cases o
      exact ⟨_, rfl, h H' A' (m.fewer fun p z => by cases z) I'.drop⟩
    · exact h.elim
def cutD (ds : List D) (lo hi : Option Int) : List D := (ds.drop (HT.sIx ds.length 0 lo)).take (HT.sIx ds.length ds.length hi - HT.sIx ds.length 0 lo)
def slD (c : D) (lo hi : Option Int) : Option D := match c with
  | .str z => if z.length ≤ sizeLine then some (.str (cutS z lo hi)) else none
  | .tup ds => if plainL ds = true then some (.tup (cutD ds lo hi)) else none
  | c => (seqL c).bind fun ds => if plainL ds = true then some (.own (cutD ds lo hi)) else none
def dSl (f : Env → Out D) (l h : Env → Out (Option Int)) : Env → Out D := fun env => (f env).bind fun c env1 => (l env1).bind fun lo env2 => (h env2).bind fun hi env3 => match (rd env3 c).bind fun c' => slD c' lo hi with
  | some d => .ok d env3
  | none => .bad
theorem OwL.cut {K : PySem.W.Frag} {mg : Str → Option Value} {S : Addr → Prop} {σ : St} {H : Hp} {vs : List V} {ds : List D} (o : OwL K mg S σ H [] vs ds) (h : plainL ds = true) (lo hi : Option Int) : OwL K mg S σ H [] (cutV vs lo hi) (cutD ds lo hi) := by
  unfold cutV cutD
  rw [o.length]
  generalize HT.sIx ds.length 0 lo = i
  generalize HT.sIx ds.length ds.length hi = j
  have hl := o.length
  refine o.part h (fun n => i + n) (n := min (j - i) (ds.length - i)) ?_ ?_ (fun n hn => ?_) fun n hn => ?_
  · rw [List.length_take, List.length_drop, hl]
  · rw [List.length_take, List.length_drop]
  · rw [List.getElem?_take_of_lt (by omega), List.getElem?_drop]
  · rw [List.getElem?_take_of_lt (by omega), List.getElem?_drop]
theorem se_sl {te : TE} {tl th : TO} {f : Env → Out D} {l h : Env → Out (Option Int)} (hf : SE X W te f) (hl : SO X W tl l) (hh : SO X W th h) :
    SE X W (tSl (fun x lo hi H Q => rSlS x lo hi H Q ∨ rSlL X.K x lo hi H Q ∨ rSlA X.K x lo hi H Q) te tl th) (dSl f l h) := fun T env σ H A Q I w => by
  refine hf T env σ H A _ I ?_
  unfold dSl at w
  cases ef : f env with
  | bad => rw [ef] at w; exact w
  | err x env' => rw [ef] at w; exact w
  | ok c env1 =>
    rw [ef, Out.bind_ok] at w
    intro v1 H1 A1 B1 m1 I1 o1
    refine hl (TB T B1) env1 σ H1 A1 _ I1 ?_
    replace w := w.re m1
    cases el : l env1 with
    | bad => rw [el] at w; exact w
    | err x env' => rw [el] at w; exact w
    | ok lo env2 =>
      rw [el, Out.bind_ok] at w
      intro H2 A2 m2 I2
      refine hh (TB T B1) env2 σ H2 A2 _ I2 ?_
      replace w := w.re0 m2
      cases eh : h env2 with
      | bad => rw [eh] at w; exact w
      | err x env' => rw [eh] at w; exact w
      | ok hi env3 =>
        rw [eh, Out.bind_ok] at w
        intro H3 A3 m3 I3
        replace w := w.re0 m3
        have o3 : Ow X.K X.mg (SA A3 (TB T B1)) σ H3 B1 v1 c := ((((o1.move m2 (fun p hp => .inr hp) I1.sep).weak fun p z => z.imp .inl id).move m3 (fun p hp => .inr hp) I2.sep).weak fun p z => z.imp .inl id)
        split at w
        · rename_i d ed
          obtain ⟨c', h1, h2⟩ := Option.bind_eq_some_iff.mp ed
          obtain ⟨B', o'⟩ := I3.rd o3 h1
          unfold slD at h2
          split at h2
          · split at h2
            · rename_i hz
              cases h2
              exact .inl ⟨_, o'.strv, hz, w _ H3 A3 [] .refl (I3.weak tbn) (.str _)⟩
            · cases h2
          · split at h2
            · rename_i hp
              cases h2
              cases o' with
              | tup i li =>
                have z := li.bare hp
                subst z
                refine .inr (.inr ⟨_, _, rfl, i.sq, fun hw => ?_, fun hw p np => ?_⟩)
                · refine w _ H3 A3 [] .refl (I3.weak tbn) ?_
                  have e : ∀ ds : List D, HT.sIx ds.length 0 lo = 0 ∧ HT.sIx ds.length ds.length hi = ds.length → cutD ds lo hi = ds := fun ds hw => by
                    unfold cutD
                    rw [hw.1, hw.2, List.drop_zero, Nat.sub_zero, List.take_length]
                  rw [li.length] at hw
                  rw [e _ hw]
                  exact (Ow.tup i li).weak san
                · exact w _ _ A3 [] (Moved.grown (keep_new np) (by simp)) (I3.grow (keep_new np) (by simp) (by simp)) (.tup (.inl ⟨fun z => I3.there p (san p z) np, .inl upd_same⟩) ((li.cut hp lo hi).chg (Bp := fun _ => True) ⟨fun b u e _ => keep_new np b u e, fun b _ z => san b z⟩ (fun _ _ => trivial) fun _ _ e => .inr e))
            · cases h2
          · obtain ⟨ds, h3, h4⟩ := Option.bind_eq_some_iff.mp h2
            split at h4
            · rename_i hp
              cases h4
              obtain ⟨a, ws, B3, rfl, h7, li⟩ := o'.seqL h3
              have z := li.bare hp
              subst z
              refine .inr (.inl ⟨a, ws, rfl, h7, fun p np => ?_⟩)
              refine w _ _ A3 [p] (Moved.grown (keep_new np) (new_one np)) (I3.grow (keep_new np) (new_one np) fun q hq => ?_) (.own upd_same (by simp) ((li.cut hp lo hi).chg (Bp := fun _ => True) ⟨fun b u e _ => keep_new np b u e, fun b hb z => ?_⟩ (fun _ _ => trivial) fun _ _ e => .inr e))
              · rw [List.mem_singleton] at hq; subst hq; rw [upd_same]; simp
              · rcases z with (z | z) | z
                · exact .inl z
                · rw [List.mem_singleton] at z; subst z; exact absurd np hb
                · exact .inr z
            · cases h4
        · exact w.elim
theorem de_sl {e : Expr} {lo hi : Option Expr} {p2 pos : Pos} {f : Env → Out D} {l h : Env → Out (Option Int)} (he : DE X W e f) (hl : DP X W lo l) (hh : DP X W hi h) : DE X W (.Subscript e (.Slice lo hi none p2) pos) (dSl f l h) := by
  obtain ⟨_, a, b⟩ := he
  obtain ⟨_, c, d⟩ := hl
  obtain ⟨_, g, k⟩ := hh
  exact ⟨_, pe_slice (sl_str.or (sl_list.or sl_tupA)) a c g, se_sl b d k⟩
end
end Dn
/-! Dn8: displays, moves, statements, what is walked. -/
namespace Dn
open PySem PySem.Spec L2

/-! ### displays -/
def dTup (fs : Env → Out (List D)) : Env → Out D := fun env => (fs env).bind fun ds env' => if ds.length ≤ sizeLine then .ok (.tup ds) env' else .bad
def dLst (fs : Env → Out (List D)) : Env → Out D := fun env => (fs env).bind fun ds env' => if ds.length ≤ sizeLine then .ok (.own ds) env' else .bad
section
variable {X : Cx} {W : WX} {es : List Expr} {pos : Pos} {fs : Env → Out (List D)}
theorem se_tup {t : TA} (h : SL X W t fs) : SE X W (tTup t) (dTup fs) := fun T env σ H A Q I w => by
  refine h T env σ H A _ I ?_
  unfold dTup at w
  cases e : fs env with
  | bad => rw [e] at w; exact w
  | err x env' => rw [e] at w; exact w
  | ok ds env' =>
    rw [e, Out.bind_ok] at w
    intro vs H1 A1 B1 m1 I1 o1
    split at w
    · rename_i hz
      refine ⟨by rw [o1.length]; exact hz, fun p np => ?_⟩
      have kp := keep_new (ho := HO.tup vs) np
      refine w _ _ A1 B1 ⟨fun b u e' nb => kp b u (m1.keep b u e' nb), m1.new⟩ ⟨I1.len, fun i d e' => ?_, I1.emp, I1.dis, I1.sep, fun q z => ?_⟩ (.tup (.inl ⟨fun z => I1.there p z np, .inl upd_same⟩) (o1.chg (Bp := fun _ => True) ⟨fun b u e' _ => kp b u e', fun _ _ z => z⟩ (fun _ _ => trivial) fun _ _ e' => .inr e'))
      · obtain ⟨n, v, s, o⟩ := I1.slot i d e'
        exact ⟨n, v, s, o.chg (Bp := fun _ => True) ⟨fun b u e' _ => kp b u e', fun _ _ z => z⟩ (fun _ _ => trivial) fun _ _ e' => .inr e'⟩
      · cases e2 : H1 q with
        | none => exact absurd e2 (I1.tt q z)
        | some u => rw [kp q u e2]; simp
    · exact w.elim
theorem se_lst {t : TA} (h : SL X W t fs) : SE X W (tLst t) (dLst fs) := fun T env σ H A Q I w => by
  refine h T env σ H A _ I ?_
  unfold dLst at w
  cases e : fs env with
  | bad => rw [e] at w; exact w
  | err x env' => rw [e] at w; exact w
  | ok ds env' =>
    rw [e, Out.bind_ok] at w
    intro vs H1 A1 B1 m1 I1 o1
    split at w
    · rename_i hz
      refine ⟨by rw [o1.length]; exact hz, fun p np => ?_⟩
      have kp := keep_new (ho := HO.lst vs) np
      have np1 : p ∉ B1 := fun z => o1.there p z np
      have I2 : EnvOk X.K X.mg (TB (TB T B1) [p]) env' σ (upd H1 p (.lst vs)) A1 := I1.grow kp (new_one np) fun q hq => by
        rw [List.mem_singleton] at hq; subst hq; rw [upd_same]; simp
      have sb : ∀ q, TB T (p :: B1) q → TB (TB T B1) [p] q := fun q z => by
        rcases z with z | z
        · exact .inl (.inl z)
        · exact (List.mem_cons.mp z).elim (fun z => .inr (List.mem_singleton.mpr z)) fun z => .inl (.inr z)
      refine w _ _ A1 (p :: B1) ⟨fun b u e' nb => kp b u (m1.keep b u e' nb), fun q z => ?_⟩ (I2.weak sb) (.own upd_same np1 (o1.chg (Bp := fun _ => True) ⟨fun b u e' _ => kp b u e', fun b hb z => ?_⟩ (fun _ _ => trivial) fun _ _ e' => .inr e'))
      · rcases z with z | z
        · rcases List.mem_cons.mp z with z | z
          · subst z; exact m1.back np
          · exact m1.new q (.inl z)
        · exact m1.new q (.inr z)
      · rcases z with z | z
        · rcases sb b z with z | z
          · exact .inl z
          · rw [List.mem_singleton] at z; subst z; exact absurd np hb
        · exact .inr z
    · exact w.elim
theorem de_tup {x1} (h : DA X W es fs) : DE X W (.Tuple es x1 pos) (dTup fs) := let ⟨_, a, b⟩ := h; ⟨_, pe_tup a, se_tup b⟩
theorem de_lst (h : DA X W es fs) : DE X W (.List es pos) (dLst fs) := let ⟨_, a, b⟩ := h; ⟨_, pe_lst a, se_lst b⟩
end

/-! ### moves: what is borrowed is frozen where it stands, and handed on -/
mutual
def bors : D → List Nat
  | .tup xs => borsL xs
  | .lst xs => borsL xs
  | .own xs => borsL xs
  | .scr xs => borsL xs
  | .dic _ vs => borsL vs
  | .odic _ vs => borsL vs
  | .bor i => [i]
  | .exc _ _ vs => borsL vs
  | .non => []
  | .bl _ => []
  | .int _ => []
  | .str _ => []
def borsL : List D → List Nat
  | [] => []
  | d :: ds => bors d ++ borsL ds
end
def frzAt (env : Env) (i : Nat) : Env := match env[i]? with
  | some (some d) => env.set i (some (frz d))
  | _ => env
def mv (d : D) (env : Env) : Option (D × Env) := if noBor d = true then some (d, env) else
  if noBor (sub ((bors d).foldl frzAt env) d) = true then some (sub ((bors d).foldl frzAt env) d, (bors d).foldl frzAt env) else none
def setA (A : Nat → List Addr) (i : Nat) (B : List Addr) : Nat → List Addr := fun j => if j = i then B else A j
theorem setA_same {A : Nat → List Addr} {i : Nat} {B : List Addr} : setA A i B i = B := if_pos rfl
theorem setA_ne {A : Nat → List Addr} {i j : Nat} {B : List Addr} (h : j ≠ i) : setA A i B j = A j := if_neg h
section
variable {K : PySem.W.Frag} {mg : Str → Option Value} {S T : Addr → Prop} {env env' : Env} {σ σ' : St} {H : Hp} {A : Nat → List Addr} {B : List Addr} {v : V} {d d' : D}
/-- slot i holds another thing now; w: its value -/
theorem EnvOk.set (I : EnvOk K mg (TB T B) env σ H A) (o : Ow K mg (SA A (TB T B)) σ H B v d) (hn : noBor d = true) (hB : ∀ p ∈ B, ¬ T p) {i : Nat} (hi : i < env.length) : EnvOk K mg T (env.set i (some d)) (σ.set i (some v)) H (setA A i B) := by
  have ss : ∀ p, SA (setA A i B) T p → SA A (TB T B) p := fun p z => by
    rcases z with z | ⟨j, z⟩
    · exact .inl (.inl z)
    · by_cases hj : j = i
      · subst hj; rw [setA_same] at z; exact .inl (.inr z)
      · rw [setA_ne hj] at z; exact .inr ⟨j, z⟩
  refine ⟨by rw [List.length_set, List.length_set]; exact I.len, fun j d' e' => ?_, fun j h => ?_, fun j k p hjk hp => ?_, fun j p hp => ?_, fun p z => I.tt p (.inl z)⟩
  · by_cases hj : j = i
    · subst hj
      rw [List.getElem?_set_self hi] at e'
      cases e'
      rw [setA_same]
      exact ⟨hn, v, by rw [List.getElem?_set_self (by rw [← I.len]; exact hi)], (o.weak ss).slots hn _⟩
    · rw [List.getElem?_set_ne (Ne.symm hj)] at e'
      obtain ⟨n, v, s, o⟩ := I.slot j d' e'
      rw [setA_ne hj]
      exact ⟨n, v, by rw [List.getElem?_set_ne (Ne.symm hj)]; exact s, (o.weak ss).slots n _⟩
  · by_cases hj : j = i
    · subst hj
      exact absurd (List.getElem?_set_self hi) (h d)
    · rw [setA_ne hj]
      exact I.emp j fun d' e' => h d' (by rw [List.getElem?_set_ne (Ne.symm hj)]; exact e')
  · by_cases hj : j = i
    · subst hj
      rw [setA_same] at hp
      rw [setA_ne (Ne.symm hjk)]
      exact fun z => I.sep k p z (.inr hp)
    · rw [setA_ne hj] at hp
      by_cases hk : k = i
      · subst hk; rw [setA_same]; exact fun z => I.sep j p hp (.inr z)
      · rw [setA_ne hk]; exact I.dis j k p hjk hp
  · by_cases hj : j = i
    · subst hj
      rw [setA_same] at hp
      exact hB p hp
    · rw [setA_ne hj] at hp; exact fun z => I.sep j p hp (.inl z)
theorem EnvOk.frzAt (I : EnvOk K mg T env σ H A) (i : Nat) : ∃ A', EnvOk K mg T (Dn.frzAt env i) σ H A' ∧ (∀ j p, p ∈ A' j → p ∈ A j) ∧ (∀ d, env[i]? = some (some d) → (Dn.frzAt env i)[i]? = some (some (frz d)) ∧ A' i = []) ∧ (∀ j, j ≠ i → (Dn.frzAt env i)[j]? = env[j]? ∧ A' j = A j) := by
  unfold Dn.frzAt
  split
  · rename_i d e
    have hi : i < env.length := (List.getElem?_eq_some_iff.mp e).1
    refine ⟨setA A i [], ?_, fun j p hp => ?_, fun d' e' => ?_, fun j hj => ?_⟩
    · have ss : ∀ p, SA (setA A i []) T p → SA A T p := fun p z => by
        rcases z with z | ⟨j, z⟩
        · exact .inl z
        · by_cases hj : j = i
          · subst hj; rw [setA_same] at z; cases z
          · rw [setA_ne hj] at z; exact .inr ⟨j, z⟩
      refine ⟨by rw [List.length_set]; exact I.len, fun j d' e' => ?_, fun j h => ?_, fun j k p hjk hp => ?_, fun j p hp => ?_, I.tt⟩
      · by_cases hj : j = i
        · subst hj
          rw [List.getElem?_set_self hi] at e'
          cases e'
          obtain ⟨n, v, s, o⟩ := I.slot j d e
          refine ⟨plain_noBor _ (plain_frz _ n), v, s, ?_⟩
          rw [setA_same]
          refine o.frz ss fun p hp z => ?_
          rcases z with z | ⟨k, z⟩
          · exact I.sep j p hp z
          · by_cases hk : k = j
            · subst hk; rw [setA_same] at z; cases z
            · rw [setA_ne hk] at z; exact I.dis k j p hk z hp
        · rw [List.getElem?_set_ne (Ne.symm hj)] at e'
          obtain ⟨n, v, s, o⟩ := I.slot j d' e'
          rw [setA_ne hj]
          exact ⟨n, v, s, o.weak ss⟩
      · by_cases hj : j = i
        · subst hj; exact setA_same
        · rw [setA_ne hj]
          exact I.emp j fun d' e' => h d' (by rw [List.getElem?_set_ne (Ne.symm hj)]; exact e')
      · by_cases hj : j = i
        · subst hj; rw [setA_same] at hp; cases hp
        · rw [setA_ne hj] at hp
          by_cases hk : k = i
          · subst hk; rw [setA_same]; simp
          · rw [setA_ne hk]; exact I.dis j k p hjk hp
      · by_cases hj : j = i
        · subst hj; rw [setA_same] at hp; cases hp
        · rw [setA_ne hj] at hp; exact I.sep j p hp
    · by_cases hj : j = i
      · subst hj; rw [setA_same] at hp; cases hp
      · rw [setA_ne hj] at hp; exact hp
    · rw [e] at e'
      cases e'
      exact ⟨by rw [List.getElem?_set_self hi], setA_same⟩
    · exact ⟨by rw [List.getElem?_set_ne (Ne.symm hj)], setA_ne hj⟩
  · rename_i h
    exact ⟨A, I, fun _ _ z => z, fun d e => absurd e (h d), fun j _ => ⟨rfl, rfl⟩⟩
theorem EnvOk.frzAll : ∀ (l : List Nat) {env : Env} {A : Nat → List Addr}, EnvOk K mg T env σ H A → ∃ A', EnvOk K mg T (l.foldl Dn.frzAt env) σ H A' ∧ (∀ j p, p ∈ A' j → p ∈ A j) ∧ (∀ i ∈ l, A' i = []) ∧ ∀ j, j ∉ l → (l.foldl Dn.frzAt env)[j]? = env[j]? ∧ A' j = A j
  | [], env, A, I => ⟨A, I, fun _ _ z => z, (fun i hi => by cases hi), fun _ _ => ⟨rfl, rfl⟩⟩
  | i :: l, env, A, I => by
    obtain ⟨A1, I1, h1, h2, h3⟩ := I.frzAt i
    obtain ⟨A2, I2, h4, h5, h6⟩ := EnvOk.frzAll l I1
    refine ⟨A2, I2, fun j p z => h1 j p (h4 j p z), fun j hj => ?_, fun j hj => ?_⟩
    · by_cases hl : j ∈ l
      · exact h5 j hl
      · have ji : j = i := (List.mem_cons.mp hj).elim id fun z => absurd z hl
        subst ji
        have nil1 : A1 j = [] := by
          by_cases q : ∃ d, env[j]? = some (some d)
          · obtain ⟨d0, q⟩ := q
            exact (h2 d0 q).2
          · have e1 : Dn.frzAt env j = env := by
              unfold Dn.frzAt
              split
              · rename_i d0 e0; exact absurd ⟨d0, e0⟩ q
              · rfl
            exact I1.emp j fun d0 e0 => q ⟨d0, by rw [e1] at e0; exact e0⟩
        rw [(h6 j hl).2, nil1]
    · have hj1 : j ≠ i := fun z => hj (z ▸ List.mem_cons_self)
      have hj2 : j ∉ l := fun z => hj (List.mem_cons_of_mem _ z)
      exact ⟨(h6 j hj2).1.trans (h3 j hj1).1, (h6 j hj2).2.trans (h3 j hj1).2⟩
mutual
theorem Ow.put (I : EnvOk K mg T env σ H A) : ∀ {B : List Addr} {v : V} {d : D}, Ow K mg (SA A T) σ H B v d → (∀ i ∈ bors d, ∀ e, env[i]? = some (some e) → A i = []) → noBor (sub env d) = true → Ow K mg (SA A T) σ H B v (sub env d)
  | _, _, _, .non, _, _ => .non
  | _, _, _, .bl b, _, _ => .bl b
  | _, _, _, .int b, _, _ => .int b
  | _, _, _, .str b, _, _ => .str b
  | _, _, _, .tup i l, h, n => .tup i (OwL.put I l h (by simpa [sub, noBor] using n))
  | _, _, _, .lst i l, h, n => .lst i (OwL.put I l h (by simpa [sub, noBor] using n))
  | _, _, _, .scr i l, h, n => .scr i (OwL.put I l h (by simpa [sub, noBor] using n))
  | _, _, _, .own i q l, h, n => .own i q (OwL.put I l h (by simpa [sub, noBor] using n))
  | _, _, _, .dic i l, h, n => .dic i (OwL.put I l h (by simpa [sub, noBor] using n))
  | _, _, _, .odic i g q l, h, n => .odic i g q (OwL.put I l h (by simpa [sub, noBor] using n))
  | _, _, _, @Ow.bor _ _ _ _ _ i v s, h, n => by
    rw [sub] at n ⊢
    split at n
    · rename_i d' e'
      obtain ⟨_, u, s', o⟩ := I.slot i d' e'
      rw [s] at s'
      cases s'
      rw [h i (by simp [bors]) d' e'] at o
      exact o
    · simp [noBor] at n
theorem OwL.put (I : EnvOk K mg T env σ H A) : ∀ {B : List Addr} {v : List V} {d : List D}, OwL K mg (SA A T) σ H B v d → (∀ i ∈ borsL d, ∀ e, env[i]? = some (some e) → A i = []) → noBorL (subL env d) = true → OwL K mg (SA A T) σ H B v (subL env d)
  | _, _, _, .nil, _, _ => .nil
  | _, _, _, .cons a b q, h, n => by
    simp only [subL, noBorL, Bool.and_eq_true] at n
    exact .cons (Ow.put I a (fun i hi => h i (by rw [borsL]; exact List.mem_append_left _ hi)) n.1) (OwL.put I b (fun i hi => h i (by rw [borsL]; exact List.mem_append_right _ hi)) n.2) q
end
theorem mv_ok (I : EnvOk K mg T env σ H A) (o : Ow K mg (SA A T) σ H B v d) (h : mv d env = some (d', env')) : ∃ A', EnvOk K mg T env' σ H A' ∧ Ow K mg (SA A' T) σ H B v d' ∧ noBor d' = true ∧ ∀ i p, p ∈ A' i → p ∈ A i := by
  unfold mv at h
  split at h
  · rename_i hn
    cases h
    exact ⟨A, I, o, hn, fun _ _ z => z⟩
  · split at h
    · rename_i hn
      cases h
      obtain ⟨A', I', h1, h2, _⟩ := I.frzAll (bors d)
      exact ⟨A', I', Ow.put I' (o.weak fun p z => z.imp id fun ⟨i, z⟩ => ⟨i, h1 i p z⟩) (fun i hi _ _ => h2 i hi) hn, hn, h1⟩
    · cases h
theorem Moved.sepB {A' : Nat → List Addr} {H' : Hp} (I : EnvOk K mg T env σ H A) (m : Moved A A' B H H') : ∀ p ∈ B, ¬ T p := fun p hp z => by
  rcases m.new p (.inl hp) with ⟨i, q⟩ | q
  · exact I.sep i p q z
  · exact I.tt p z q
/-- slot i is forgotten, whatever it holds now -/
theorem EnvOk.forget (I : EnvOk K mg T env σ H A) {i : Nat} (hl : σ'.length = σ.length) (hs : ∀ j, j ≠ i → σ'[j]? = σ[j]?) : EnvOk K mg T (env.set i none) σ' H (setA A i []) := by
  have ss : ∀ p, SA (setA A i []) T p → SA A T p := fun p z => by
    rcases z with z | ⟨j, z⟩
    · exact .inl z
    · by_cases hj : j = i
      · subst hj; rw [setA_same] at z; cases z
      · rw [setA_ne hj] at z; exact .inr ⟨j, z⟩
  refine ⟨by rw [List.length_set, hl]; exact I.len, fun j d' e' => ?_, fun j h => ?_, fun j k p hjk hp => ?_, fun j p hp => ?_, I.tt⟩
  · by_cases hj : j = i
    · subst hj
      rw [List.getElem?_set] at e'
      simp at e'
    · rw [List.getElem?_set_ne (Ne.symm hj)] at e'
      obtain ⟨n, v, s, o⟩ := I.slot j d' e'
      rw [setA_ne hj]
      exact ⟨n, v, by rw [hs j hj]; exact s, (o.weak ss).slots n _⟩
  · by_cases hj : j = i
    · subst hj; exact setA_same
    · rw [setA_ne hj]
      exact I.emp j fun d' e' => h d' (by rw [List.getElem?_set_ne (Ne.symm hj)]; exact e')
  · by_cases hj : j = i
    · subst hj; rw [setA_same] at hp; cases hp
    · rw [setA_ne hj] at hp
      by_cases hk : k = i
      · subst hk; rw [setA_same]; simp
      · rw [setA_ne hk]; exact I.dis j k p hjk hp
  · by_cases hj : j = i
    · subst hj; rw [setA_same] at hp; cases hp
    · rw [setA_ne hj] at hp; exact I.sep j p hp
end

/-! ### statements -/
inductive SOut where
  | nx (env : Env) | rt (d : D) (env : Env) | bk (env : Env) | ct (env : Env) | err (x : Exn) (env : Env) | bad
/-- the slots that no statement stores to -/
def Fix (fx : Nat → Bool) (σ σ' : St) : Prop := σ'.length = σ.length ∧ ∀ i, fx i = true → σ'[i]? = σ[i]?
def WS (X : Cx) (W : WX) (fx : Nat → Bool) (T : Addr → Prop) (A : Nat → List Addr) (σ : St) (H : Hp) (o : SOut) (N : Ends) : Prop := match o with
  | .nx env' => ∀ σ' H' A', Moved A A' [] H H' → EnvOk X.K X.mg T env' σ' H' A' → Fix fx σ σ' → N.nx σ' H'
  | .bk env' => ∀ σ' H' A', Moved A A' [] H H' → EnvOk X.K X.mg T env' σ' H' A' → Fix fx σ σ' → N.bk σ' H'
  | .ct env' => ∀ σ' H' A', Moved A A' [] H H' → EnvOk X.K X.mg T env' σ' H' A' → Fix fx σ σ' → N.ct σ' H'
  | .rt d env' => ∀ v σ' H' A' B, Moved A A' B H H' → EnvOk X.K X.mg (TB T B) env' σ' H' A' → Ow X.K X.mg (SA A' (TB T B)) σ' H' B v d → noBor d = true → Fix fx σ σ' → N.rt v H'
  | .err x env' => ∀ σ' H' A', Moved A A' [] H H' → EnvOk X.K X.mg T env' σ' H' A' → Fix fx σ σ' → ErrW X.mg W x σ' H'
  | .bad => False
def SS (X : Cx) (W : WX) (fx : Nat → Bool) (t : TS) (g : Env → SOut) : Prop := ∀ T env σ H A N, EnvOk X.K X.mg T env σ H A → WS X W fx T A σ H (g env) N → t N σ H
def DS (X : Cx) (W : WX) (fx : Nat → Bool) (st : Stmt) (g : Env → SOut) : Prop := ∃ t, PS X st t ∧ SS X W fx t g
def DSs (X : Cx) (W : WX) (fx : Nat → Bool) (st : List Stmt) (g : Env → SOut) : Prop := ∃ t, PSs X st t ∧ SS X W fx t g
section
variable {X : Cx} {W : WX} {fx : Nat → Bool} {T : Addr → Prop} {env : Env} {A A1 : Nat → List Addr} {σ σ1 : St} {H H1 : Hp}
theorem Fix.refl : Fix fx σ σ := ⟨rfl, fun _ _ => rfl⟩
theorem Fix.trans {σ2 : St} (a : Fix fx σ σ1) (b : Fix fx σ1 σ2) : Fix fx σ σ2 := ⟨b.1.trans a.1, fun i hi => (b.2 i hi).trans (a.2 i hi)⟩
theorem WS.re {o : SOut} {N : Ends} (h : WS X W fx T A σ H o N) (m : Moved A A1 [] H H1) (f : Fix fx σ σ1) : WS X W fx T A1 σ1 H1 o N := by
  cases o with
  | nx env' => exact fun σ' H' A' n e g => h σ' H' A' (m.trans n fun p z => by cases z) e (f.trans g)
  | bk env' => exact fun σ' H' A' n e g => h σ' H' A' (m.trans n fun p z => by cases z) e (f.trans g)
  | ct env' => exact fun σ' H' A' n e g => h σ' H' A' (m.trans n fun p z => by cases z) e (f.trans g)
  | rt d env' => exact fun v σ' H' A' B n e w nb g => h v σ' H' A' B (m.trans n fun p z => .inr (.inl z)) e w nb (f.trans g)
  | err x env' => exact fun σ' H' A' n e g => h σ' H' A' (m.trans n fun p z => by cases z) e (f.trans g)
  | bad => exact h
/-- a statement that evaluates f first -/
def liftE (o : Out D) (k : D → Env → SOut) : SOut := match o with
  | .ok d env' => k d env'
  | .err x env' => .err x env'
  | .bad => .bad
theorem liftE_ok (d : D) (env : Env) (k : D → Env → SOut) : liftE (.ok d env) k = k d env := rfl
theorem WS.lift {o : Out D} {k : D → Env → SOut} {N : Ends} {Q : VK} (h : WS X W fx T A σ H (liftE o k) N)
    (hk : ∀ d env1, o = .ok d env1 → WS X W fx T A σ H (k d env1) N → ∀ v H1 A1 B1, Moved A A1 B1 H H1 → EnvOk X.K X.mg (TB T B1) env1 σ H1 A1 → Ow X.K X.mg (SA A1 (TB T B1)) σ H1 B1 v d → Q v H1) : WD X W T A σ H o Q := by
  cases o with
  | ok d env1 => exact hk d env1 rfl h
  | err x env1 => exact fun H' A' m e => h σ H' A' m e .refl
  | bad => exact h
def dSkip : Env → SOut := fun env => .nx env
def dSeq (g k : Env → SOut) : Env → SOut := fun env => match g env with
  | .nx env' => k env'
  | o => o
def dSet (i : Nat) (f : Env → Out D) : Env → SOut := fun env => liftE (f env) fun d env1 => match mv d env1 with
  | some (d', env2) => if i < env2.length then .nx (env2.set i (some d')) else .bad
  | none => .bad
def dExpr (f : Env → Out D) : Env → SOut := fun env => liftE (f env) fun _ env1 => .nx env1
def dIfS (c : Env → Out Bool) (g k : Env → SOut) : Env → SOut := fun env => match c env with
  | .ok b env' => if b = true then g env' else k env'
  | .err x env' => .err x env'
  | .bad => .bad
theorem ss_skip : SS X W fx tNext dSkip := fun T env σ H A N I h => h σ H A .refl I .refl
theorem ss_seq {t u : TS} {g k : Env → SOut} (hg : SS X W fx t g) (hk : SS X W fx u k) : SS X W fx (tSeq t u) (dSeq g k) := fun T env σ H A N I h => by
  refine hg T env σ H A _ I ?_
  unfold dSeq at h
  cases e : g env with
  | nx env' =>
    rw [e] at h
    exact fun σ' H' A' m I' f => hk T env' σ' H' A' N I' (h.re m f)
  | bk env' => rw [e] at h; exact h
  | ct env' => rw [e] at h; exact h
  | rt d env' => rw [e] at h; exact h
  | err x env' => rw [e] at h; exact h
  | bad => rw [e] at h; exact h
theorem ss_set {i : Nat} {te : TE} {f : Env → Out D} (hi : fx i = false) (hf : SE X W te f) : SS X W fx (tAsg te (gName i)) (dSet i f) := fun T env σ H A N I h => by
  refine hf T env σ H A _ I (h.lift fun d env1 e w v H1 A1 B1 m1 I1 o1 => ?_)
  cases em : mv d env1 with
  | none => rw [em] at w; exact w.elim
  | some q =>
    obtain ⟨d', env2⟩ := q
    rw [em] at w
    obtain ⟨A2, I2, o2, n2, s2⟩ := mv_ok I1 o1 em
    simp only at w
    split at w
    · rename_i hl
      have m2 : Moved A A2 B1 H H1 := ⟨m1.keep, fun p z => m1.new p (z.imp id fun ⟨j, z⟩ => ⟨j, s2 j p z⟩)⟩
      refine w (σ.set i (some v)) H1 (setA A2 i B1) ⟨m2.keep, fun p z => ?_⟩ (I2.set o2 n2 (Moved.sepB I m2) hl) ⟨by rw [List.length_set], fun j hj => ?_⟩
      · rcases z with z | ⟨j, z⟩
        · cases z
        · by_cases hj : j = i
          · subst hj; rw [setA_same] at z; exact m2.new p (.inl z)
          · rw [setA_ne hj] at z; exact m2.new p (.inr ⟨j, z⟩)
      · have ji : j ≠ i := fun z => by
          subst z
          rw [hj] at hi
          cases hi
        rw [List.getElem?_set_ne (Ne.symm ji)]
    · exact w.elim
theorem ss_expr {te : TE} {f : Env → Out D} (hf : SE X W te f) : SS X W fx (tDrop te) (dExpr f) := fun T env σ H A N I h =>
  hf T env σ H A _ I (h.lift fun d env1 e w v H1 A1 B1 m1 I1 o1 => w σ H1 A1 (m1.fewer fun p z => by cases z) I1.drop .refl)
theorem ss_if {c : TT} {t u : TS} {p : Env → Out Bool} {g k : Env → SOut} (hc : ST X W c p) (hg : SS X W fx t g) (hk : SS X W fx u k) : SS X W fx (tIfS c t u) (dIfS p g k) := fun T env σ H A N I h => by
  refine hc T env σ H A _ I ?_
  unfold dIfS at h
  cases e : p env with
  | bad => rw [e] at h; exact h
  | err x env' => rw [e] at h; exact fun H' A' m I' => h σ H' A' m I' .refl
  | ok b env' =>
    rw [e] at h
    intro H' A' m I'
    cases b with
    | true => exact hg T env' σ H' A' N I' (h.re m .refl)
    | false => exact hk T env' σ H' A' N I' (h.re m .refl)
end
end Dn
/-! Dn9: return, targets, what is walked, for. -/
namespace Dn
open PySem PySem.Spec L2

/-! ### return -/
def takeL : List D → Env → Option (List D × Env)
  | [], env => some ([], env)
  | .bor i :: ds, env => match env[i]? with
    | some (some d) => (takeL ds (env.set i none)).map fun q => (d :: q.1, q.2)
    | _ => none
  | d :: ds, env => if noBor d = true then (takeL ds env).map fun q => (d :: q.1, q.2) else none
def retV (d : D) (env : Env) : Option (D × Env) := match d with
  | .bor i => match env[i]? with
    | some (some d) => some (d, env.set i none)
    | _ => none
  | .tup ds => if noBorL ds = true then some (.tup ds, env) else (takeL ds env).map fun q => (.tup q.1, q.2)
  | .own ds => if noBorL ds = true then some (.own ds, env) else (takeL ds env).map fun q => (.own q.1, q.2)
  | d => mv d env
def dRet (f : Env → Out D) : Env → SOut := fun env => liftE (f env) fun d env1 => match retV d env1 with
  | some (d', env2) => .rt d' env2
  | none => .bad
def dRetN : Env → SOut := fun env => .rt .non env
section
variable {K : PySem.W.Frag} {mg : Str → Option Value} {S T : Addr → Prop} {env env' : Env} {σ σ' : St} {H : Hp} {A : Nat → List Addr} {B : List Addr} {v : V} {vs : List V} {d d' : D} {ds ds' : List D}
/-- a slot's thing is taken out -/
theorem EnvOk.take (I : EnvOk K mg T env σ H A) {i : Nat} (e : env[i]? = some (some d)) : EnvOk K mg (TB T (A i)) (env.set i none) σ H (setA A i []) := by
  have J := (I.forget (i := i) rfl fun _ _ => rfl)
  have ss : ∀ p, SA (setA A i []) (TB T (A i)) p → SA A T p := fun p z => by
    rcases z with (z | z) | ⟨j, z⟩
    · exact .inl z
    · exact .inr ⟨i, z⟩
    · by_cases hj : j = i
      · subst hj; rw [setA_same] at z; cases z
      · rw [setA_ne hj] at z; exact .inr ⟨j, z⟩
  refine ⟨J.len, fun j d' e' => ?_, J.emp, J.dis, fun j p hp z => ?_, fun p z => ?_⟩
  · by_cases hj : j = i
    · subst hj
      rw [List.getElem?_set] at e'
      simp at e'
    · rw [List.getElem?_set_ne (Ne.symm hj)] at e'
      obtain ⟨n, v, s, o⟩ := I.slot j d' e'
      rw [setA_ne hj]
      exact ⟨n, v, s, o.weak ss⟩
  · by_cases hj : j = i
    · subst hj; rw [setA_same] at hp; cases hp
    · rw [setA_ne hj] at hp
      rcases z with z | z
      · exact I.sep j p hp z
      · exact I.dis j i p hj hp z
  · rcases z with z | z
    · exact I.tt p z
    · exact I.there p (.inr ⟨i, z⟩)
theorem setA_sub {i : Nat} : ∀ j p, p ∈ setA A i [] j → p ∈ A j := fun j p z => by
  by_cases hj : j = i
  · subst hj; rw [setA_same] at z; cases z
  · rw [setA_ne hj] at z; exact z
theorem takeL_ok : ∀ {ds : List D} {T : Addr → Prop} {env : Env} {A : Nat → List Addr} {B : List Addr} {vs : List V} {ds' : List D} {env' : Env}, EnvOk K mg (TB T B) env σ H A → OwL K mg (SA A (TB T B)) σ H B vs ds → takeL ds env = some (ds', env') →
    ∃ A' B', EnvOk K mg (TB T B') env' σ H A' ∧ OwL K mg (SA A' (TB T B')) σ H B' vs ds' ∧ noBorL ds' = true ∧ (∀ i p, p ∈ A' i → p ∈ A i) ∧ ∀ p ∈ B', p ∈ B ∨ ∃ i, p ∈ A i
  | [], T, env, A, B, vs, ds', env', I, o, h => by
    simp only [takeL] at h
    cases h
    cases o
    exact ⟨A, [], I, .nil, rfl, fun _ _ z => z, fun p z => by cases z⟩
  | d :: ds, T, env, A, B, vs, ds', env', I, o, h => by
    cases o with
    | @cons B1 B2 v vs' _ _ o1 l n =>
      -- the first thing, out of its slot or as it is: from then on it is held aside
      have main : ∀ (d1 : D) (env1 : Env) (A1 : Nat → List Addr) (C1 : List Addr), noBor d1 = true → EnvOk K mg (TB (TB T C1) B2) env1 σ H A1 → Ow K mg (SA A (TB T (B1 ++ B2))) σ H C1 v d1 → (∀ j p, p ∈ A1 j → p ∈ A j) → (∀ p ∈ C1, p ∈ B1 ∨ ∃ i, p ∈ A i) → (∀ p ∈ C1, p ∉ B2) → (∀ p, SA A1 (TB (TB T C1) B2) p → SA A (TB T (B1 ++ B2)) p) →
          (takeL ds env1).map (fun q => (d1 :: q.1, q.2)) = some (ds', env') →
          ∃ A' B', EnvOk K mg (TB T B') env' σ H A' ∧ OwL K mg (SA A' (TB T B')) σ H B' (v :: vs') ds' ∧ noBorL ds' = true ∧ (∀ i p, p ∈ A' i → p ∈ A i) ∧ ∀ p ∈ B', p ∈ B1 ++ B2 ∨ ∃ i, p ∈ A i := by
        intro d1 env1 A1 C1 nb I1 o1 hA hC hCB ss h
        obtain ⟨⟨ds2, env2⟩, h1, h2⟩ := Option.map_eq_some_iff.mp h
        cases h2
        obtain ⟨A2, B2', I2, o2, n2, s2, t2⟩ := takeL_ok (T := TB T C1) I1 (l.weak ss) h1
        have m : ∀ p, TB T (C1 ++ B2') p ↔ TB (TB T C1) B2' p := fun p => by
          unfold TB; rw [List.mem_append]; exact ⟨fun z => z.elim (fun z => .inl (.inl z)) fun z => z.elim (fun z => .inl (.inr z)) .inr, fun z => z.elim (fun z => z.elim .inl fun z => .inr (.inl z)) fun z => .inr (.inr z)⟩
        refine ⟨A2, C1 ++ B2', I2.weak fun p z => (m p).mp z, .cons (o1.weak fun p z => ?_) (o2.weak fun p z => z.imp (m p).mp id) fun p hp hq => ?_, by simp [noBorL, nb, n2], fun i p z => hA i p (s2 i p z), fun p hp => ?_⟩
        · rcases z with z | ⟨i, z⟩
          · rcases z with z | z
            · exact .inl (.inl z)
            · rcases List.mem_append.mp z with z | z
              · exact (hC p z).elim (fun z => .inl (.inr (List.mem_append_left _ z))) .inr
              · exact (t2 p z).elim (fun z => .inl (.inr (List.mem_append_right _ z))) fun ⟨i, z⟩ => .inr ⟨i, hA i p z⟩
          · exact .inr ⟨i, hA i p (s2 i p z)⟩
        · rcases t2 p hq with z | ⟨i, z⟩
          · exact hCB p hp z
          · exact I1.sep i p z (.inl (.inr hp))
        · rcases List.mem_append.mp hp with z | z
          · exact (hC p z).imp (List.mem_append_left _) id
          · exact (t2 p z).elim (fun z => .inl (List.mem_append_right _ z)) fun ⟨i, z⟩ => .inr ⟨i, hA i p z⟩
      have self : noBor d = true → (takeL ds env).map (fun q => (d :: q.1, q.2)) = some (ds', env') → _ := fun nb h =>
        main d env A B1 nb (I.weak fun p z => z.elim (fun z => z.imp id (List.mem_append_left _)) fun z => .inr (List.mem_append_right _ z)) o1 (fun _ _ z => z) (fun p z => .inl z) n
          (fun p z => z.imp (fun z => z.elim (fun z => z.imp id (List.mem_append_left _)) fun z => .inr (List.mem_append_right _ z)) id) h
      cases d with
      | bor i =>
        simp only [takeL] at h
        split at h
        · rename_i d0 e0
          obtain ⟨nb, u, s, o⟩ := I.slot i d0 e0
          cases o1 with
          | bor s' =>
            rw [s'] at s
            cases s
            have I1 := I.take e0
            have m : ∀ p, TB (TB T (A i)) B2 p → TB (TB T ([] ++ B2)) (A i) p := fun p z => z.elim (fun z => z.elim (fun z => .inl (.inl z)) .inr) fun z => .inl (.inr z)
            refine main d0 _ _ (A i) nb (I1.weak m) o setA_sub (fun p z => .inr ⟨i, z⟩) (fun p z q => I.sep i p z (.inr q)) (fun p z => ?_) h
            rcases z with z | ⟨j, z⟩
            · rcases m p z with z | z
              · exact .inl z
              · exact .inr ⟨i, z⟩
            · exact .inr ⟨j, setA_sub j p z⟩
        · cases h
      | _ =>
        simp only [takeL] at h
        split at h
        · rename_i nb
          exact self nb h
        · cases h
theorem retV_ok {T : Addr → Prop} (I : EnvOk K mg (TB T B) env σ H A) (o : Ow K mg (SA A (TB T B)) σ H B v d) (h : retV d env = some (d', env')) : ∃ A' B', EnvOk K mg (TB T B') env' σ H A' ∧ Ow K mg (SA A' (TB T B')) σ H B' v d' ∧ noBor d' = true ∧ (∀ i p, p ∈ A' i → p ∈ A i) ∧ ∀ p ∈ B', p ∈ B ∨ ∃ i, p ∈ A i := by
  unfold retV at h
  split at h
  · rename_i i
    split at h
    · rename_i d0 e0
      cases h
      obtain ⟨nb, u, s, o'⟩ := I.slot i _ e0
      cases o with
      | bor s' =>
        rw [s'] at s
        cases s
        have I1 := I.take e0
        refine ⟨_, A i, I1.weak fun p z => z.imp .inl id, o'.weak fun p z => ?_, nb, setA_sub, fun p z => .inr ⟨i, z⟩⟩
        rcases z with (z | z) | ⟨j, z⟩
        · exact .inl (.inl z)
        · exact .inr ⟨i, z⟩
        · exact .inr ⟨j, setA_sub j p z⟩
    · cases h
  · rename_i ds
    split at h
    · rename_i nb
      cases h
      exact ⟨A, B, I, o, by simpa [noBor] using nb, fun _ _ z => z, fun p z => .inl z⟩
    · obtain ⟨⟨ds2, env2⟩, h1, h2⟩ := Option.map_eq_some_iff.mp h
      cases h2
      cases o with
      | tup i l =>
        obtain ⟨A', B', I', o', n', s', t'⟩ := takeL_ok I l h1
        refine ⟨A', B', I', .tup ?_ o', by simpa [noBor] using n', s', t'⟩
        rcases i with ⟨i1, i2⟩ | i
        · refine .inl ⟨fun z => i1 ?_, i2⟩
          rcases z with (z | z) | ⟨j, z⟩
          · exact .inl (.inl z)
          · exact (t' _ z).elim (fun z => .inl (.inr z)) .inr
          · exact .inr ⟨j, s' j _ z⟩
        · exact .inr i
  · rename_i ds
    split at h
    · rename_i nb
      cases h
      exact ⟨A, B, I, o, by simpa [noBor] using nb, fun _ _ z => z, fun p z => .inl z⟩
    · obtain ⟨⟨ds2, env2⟩, h1, h2⟩ := Option.map_eq_some_iff.mp h
      cases h2
      cases o with
      | @own a C _ _ i n l =>
        have re : ∀ p, TB (TB T [a]) C p → TB T (a :: C) p := fun p z => z.elim (fun z => z.elim .inl fun z => .inr (by rw [List.mem_singleton] at z; subst z; exact List.mem_cons_self)) fun z => .inr (List.mem_cons_of_mem _ z)
        obtain ⟨A', B', I', o', n', s', t'⟩ := takeL_ok (T := TB T [a]) (I.weak re) (l.weak fun p z => z.imp (re p) id) h1
        have na : a ∉ B' := fun z => (t' a z).elim n fun ⟨j, z⟩ => I.sep j a z (.inr List.mem_cons_self)
        have re2 : ∀ p, TB T (a :: B') p → TB (TB T [a]) B' p := fun p z => z.elim (fun z => .inl (.inl z)) fun z => (List.mem_cons.mp z).elim (fun z => .inl (.inr (List.mem_singleton.mpr z))) .inr
        refine ⟨A', a :: B', I'.weak re2, .own i na (o'.weak fun p z => z.imp (re2 p) id), by simpa [noBor] using n', s', fun p z => ?_⟩
        rcases List.mem_cons.mp z with z | z
        · subst z; exact .inl List.mem_cons_self
        · exact (t' p z).elim (fun z => .inl (List.mem_cons_of_mem _ z)) .inr
  · obtain ⟨A', I', o', n', s'⟩ := mv_ok I o h
    exact ⟨A', B, I', o', n', s', fun p z => .inl z⟩
end
section
variable {X : Cx} {W : WX} {fx : Nat → Bool}
theorem ss_ret {te : TE} {f : Env → Out D} (hf : SE X W te f) : SS X W fx (tRet te) (dRet f) := fun T env σ H A N I h => by
  refine hf T env σ H A _ I (h.lift fun d env1 e w v H1 A1 B1 m1 I1 o1 => ?_)
  cases er : retV d env1 with
  | none => rw [er] at w; exact w.elim
  | some q =>
    obtain ⟨d', env2⟩ := q
    rw [er] at w
    obtain ⟨A2, B2, I2, o2, n2, s2, t2⟩ := retV_ok I1 o1 er
    refine w v σ H1 A2 B2 ⟨m1.keep, fun p z => ?_⟩ I2 o2 n2 .refl
    rcases z with z | ⟨i, z⟩
    · exact m1.new p (t2 p z)
    · exact m1.new p (.inr ⟨i, s2 i p z⟩)
theorem ss_retN : SS X W fx tRetN dRetN := fun T env σ H A N I h => h .non σ H A [] .refl (I.weak tbn) .non rfl .refl
end

/-! ### targets -/
/-- what may be assigned to -/
def SG (X : Cx) (fx : Nat → Bool) (g : TG) (h : D → Env → Option Env) : Prop := ∀ T env σ H A B v d env' Q, EnvOk X.K X.mg (TB T B) env σ H A → Ow X.K X.mg (SA A (TB T B)) σ H B v d → noBor d = true → (∀ p ∈ B, ¬ T p) → h d env = some env' →
  (∀ σ' A', EnvOk X.K X.mg T env' σ' H A' → (∀ i p, p ∈ A' i → p ∈ B ∨ ∃ j, p ∈ A j) → Fix fx σ σ' → Q σ' H) → g v σ H Q
def SGs (X : Cx) (fx : Nat → Bool) (g : TGs) (h : List D → Env → Option Env) : Prop := ∀ T env σ H A B vs ds env' Q, EnvOk X.K X.mg (TB T B) env σ H A → OwL X.K X.mg (SA A (TB T B)) σ H B vs ds → noBorL ds = true → (∀ p ∈ B, ¬ T p) → h ds env = some env' →
  (∀ σ' A', EnvOk X.K X.mg T env' σ' H A' → (∀ i p, p ∈ A' i → p ∈ B ∨ ∃ j, p ∈ A j) → Fix fx σ σ' → Q σ' H) → g vs σ H Q
def DG (X : Cx) (fx : Nat → Bool) (e : Expr) (h : D → Env → Option Env) : Prop := ∃ g, PG X e g ∧ SG X fx g h
def DGs (X : Cx) (fx : Nat → Bool) (es : List Expr) (h : List D → Env → Option Env) : Prop := ∃ g, PGs X es g ∧ SGs X fx g h
def gN (i : Nat) : D → Env → Option Env := fun d env => if i < env.length then some (env.set i (some d)) else none
def gsNil : List D → Env → Option Env := fun ds env => match ds with
  | [] => some env
  | _ => none
def gsCons (h : D → Env → Option Env) (k : List D → Env → Option Env) : List D → Env → Option Env := fun ds env => match ds with
  | d :: ds => (h d env).bind (k ds)
  | [] => none
/-- a tuple, or a list, of that length -/
def gT (n : Nat) (k : List D → Env → Option Env) : D → Env → Option Env := fun d env => (seqA d).bind fun ds => if ds.length = n then k ds env else none
section
variable {X : Cx} {W : WX} {fx : Nat → Bool}
theorem sg_name {i : Nat} (hi : fx i = false) : SG X fx (gName i) (gN i) := fun T env σ H A B v d env' Q I o n hB h q => by
  unfold gN at h
  split at h
  · rename_i hl
    cases h
    refine q _ _ (I.set o n hB hl) (fun j p z => ?_) ⟨by rw [List.length_set], fun j hj => ?_⟩
    · by_cases hj : j = i
      · subst hj; rw [setA_same] at z; exact .inl z
      · rw [setA_ne hj] at z; exact .inr ⟨j, z⟩
    · have ji : j ≠ i := fun z => by
        subst z
        rw [hj] at hi
        cases hi
      rw [List.getElem?_set_ne (Ne.symm ji)]
  · cases h
theorem sgs_nil : SGs X fx gNil gsNil := fun T env σ H A B vs ds env' Q I o n hB h q => by
  unfold gsNil at h
  split at h
  · cases h
    cases o
    exact ⟨rfl, q σ A (I.weak fun p z => .inl z) (fun i p z => .inr ⟨i, z⟩) .refl⟩
  · cases h
theorem sgs_cons {g : TG} {gs : TGs} {h : D → Env → Option Env} {k : List D → Env → Option Env} (hg : SG X fx g h) (hk : SGs X fx gs k) : SGs X fx (gCons g gs) (gsCons h k) := fun T env σ H A B vs ds env' Q I o n hB e q => by
  unfold gsCons at e
  split at e
  · rename_i d ds
    obtain ⟨env1, e1, e2⟩ := Option.bind_eq_some_iff.mp e
    simp only [noBorL, Bool.and_eq_true] at n
    cases o with
    | @cons B1 B2 v vs' _ _ o1 l nn =>
      refine ⟨v, vs', rfl, ?_⟩
      have ta : ∀ p, TB (TB T B2) B1 p → TB T (B1 ++ B2) p := fun p z => z.elim (fun z => z.imp id (List.mem_append_right _)) fun z => .inr (List.mem_append_left _ z)
      refine hg (TB T B2) env σ H A B1 v d env1 _ (I.weak ta) (o1.weak fun p z => z.imp (ta p) id) n.1 (fun p hp z => z.elim (hB p (List.mem_append_left _ hp)) (nn p hp)) e1 fun σ' A' I' s' f' => ?_
      refine hk T env1 σ' H A' B2 vs' ds env' Q I' ((l.weak fun p z => ?_).slots n.2 σ') n.2 (fun p hp => hB p (List.mem_append_right _ hp)) e2 fun σ2 A2 I2 s2 f2 => q σ2 A2 I2 (fun i p z => ?_) (f'.trans f2)
      · rcases z with z | ⟨i, z⟩
        · exact .inl (z.imp id (List.mem_append_right _))
        · exact (s' i p z).elim (fun z => .inl (.inr (List.mem_append_left _ z))) .inr
      · rcases s2 i p z with z | ⟨j, z⟩
        · exact .inl (List.mem_append_right _ z)
        · exact (s' j p z).imp (List.mem_append_left _) id
  · cases e
theorem pg_or {e : Expr} {t u : TG} (h : PG X e t) (k : PG X e u) : PG X e (fun v σ H Q => t v σ H Q ∨ u v σ H Q) := ⟨fun pins s σ H v u' Q I r q => q.elim (h.run pins s σ H v u' Q I r) (k.run pins s σ H v u' Q I r)⟩
theorem sg_tup {n : Nat} {gs : TGs} {k : List D → Env → Option Env} (hk : SGs X fx gs k) : SG X fx (fun v σ H Q => gTup X.K n gs v σ H Q ∨ gLst X.K n gs v σ H Q) (gT n k) := fun T env σ H A B v d env' Q I o nb hB h q => by
  unfold gT at h
  obtain ⟨ds, h1, h2⟩ := Option.bind_eq_some_iff.mp h
  split at h2
  · rename_i hl
    cases o with
    | tup i l =>
      cases h1
      exact .inl ⟨_, _, rfl, i.sq, l.length.trans hl, hk T env σ H A _ _ _ env' Q I l (by simpa [noBor] using nb) hB h2 q⟩
    | lst i l =>
      cases h1
      exact .inr ⟨_, _, rfl, i.sq, l.length.trans hl, hk T env σ H A _ _ _ env' Q I l (by simpa [noBor] using nb) hB h2 q⟩
    | scr i l =>
      cases h1
      exact .inr ⟨_, _, rfl, i.sq, l.length.trans hl, hk T env σ H A _ _ _ env' Q I l (by simpa [noBor] using nb) hB h2 q⟩
    | @own a C _ _ i n' l =>
      cases h1
      have sb : ∀ p, TB T C p → TB T (a :: C) p := fun p z => z.imp id (List.mem_cons_of_mem _)
      exact .inr ⟨_, _, rfl, .inl (.inl i), l.length.trans hl, hk T env σ H A C _ _ env' Q (I.weak sb) (l.weak fun p z => z.imp (sb p) id) (by simpa [noBor] using nb) (fun p hp => hB p (List.mem_cons_of_mem _ hp)) h2 fun σ' A' I' s' f' => q σ' A' I' (fun i p z => (s' i p z).imp (List.mem_cons_of_mem _) id) f'⟩
    | _ => cases h1
  · cases h2
theorem dg_name (i : Nat) {x : Str} {pos : Pos} (hN : X.N.Nodup) (hi : X.N[i]? = some x := by rfl) (hx : Loc X.env.scope x := by first | exact Or.inl rfl | exact Or.inr rfl) (hfx : fx i = false := by rfl)
    (hf : X.fn x = true ∨ X.env.scope.names.lookup x = some .local := by first | exact .inl rfl | exact .inr rfl) : DG X fx (.Name x pos) (gN i) := ⟨_, pg_name hN hi hx hf, sg_name hfx⟩
theorem dgs_nil : DGs X fx [] gsNil := ⟨_, pgs_nil, sgs_nil⟩
theorem dgs_cons {e : Expr} {es : List Expr} {h : D → Env → Option Env} {k : List D → Env → Option Env} (a : DG X fx e h) (b : DGs X fx es k) (hs : List.map (fun x => x.snd) (assignEach (e :: es) X.env) = assign e X.env :: List.map (fun x => x.snd) (assignEach es X.env) := by rfl) : DGs X fx (e :: es) (gsCons h k) := let ⟨_, x, y⟩ := a; let ⟨_, z, w⟩ := b; ⟨_, pgs_cons x z hs, sgs_cons y w⟩
theorem dg_tup {k : Nat} {es : List Expr} {pos : Pos} {q : List D → Env → Option Env} (n m : Nat) (Z : Sit X W m) (a : DGs X fx es q) (hn : (assignEach es X.env).length = n := by rfl) (hst : (assignEach es X.env).findIdx? (·.1) = none := by rfl) : DG X fx (.Tuple es k pos) (gT n q) := let ⟨_, x, y⟩ := a; ⟨_, pg_or (pg_tup Z.calm x hn hst) (pg_lst Z.calm x hn hst), sg_tup y⟩
end

/-! ### what is walked -/
/-- J walks the items, while the things vs stand for sd -/
def ItOk (K : PySem.W.Frag) (mg : Str → Option Value) (J : It) (items : List D) (vs : List V) (sd : List D) : Prop :=
  ∀ S σ H, OwL K mg S σ H [] vs sd → (∀ p, S p → H p ≠ none) → ∀ i, (items.length ≤ i → J.stop i H) ∧ ∀ d, items[i]? = some d → J.go i H ∧ ∀ x H', J.yld i H x H' → (∀ b o, H b = some o → H' b = some o) ∧ Ow K mg S σ H' [] x d
def WI (X : Cx) (W : WX) (T : Addr → Prop) (A : Nat → List Addr) (σ : St) (H : Hp) (o : Out (List D)) (R : It → Hp → Prop) : Prop := match o with
  | .ok items env' => plainL items = true ∧ ∀ J H' A' vs sd, Moved A A' [] H H' → EnvOk X.K X.mg T env' σ H' A' → OwL X.K X.mg (SA A' T) σ H' [] vs sd → noBorL sd = true → ItOk X.K X.mg J items vs sd → R J H'
  | .err x env' => WErr X W T A σ H x env'
  | .bad => False
def SI (X : Cx) (W : WX) (t : TI) (f : Env → Out (List D)) : Prop := ∀ T env σ H A R, EnvOk X.K X.mg T env σ H A → WI X W T A σ H (f env) R → t σ H R
def DI (X : Cx) (W : WX) (tg iter : Expr) (f : Env → Out (List D)) : Prop := ∃ t, PI X tg iter t ∧ SI X W t f
/-- a list, a tuple, a text -/
def itemsD : D → Option (List D)
  | .str z => some (z.cps.toList.map fun n => .str ⟨#[n]⟩)
  | d => seqA d
def dItems (f : Env → Out D) : Env → Out (List D) := fun env => (f env).bind fun d env1 => match mv d env1 with
  | some (d', env2) => match itemsD (frz d') with
    | some items => .ok items env2
    | none => .bad
  | none => .bad
def iAny (K : PySem.W.Frag) (tl : TE) : TI := fun σ H R => tl σ H fun x H1 => (∃ a, x = .ref a ∧ (∃ xs, SqL K H1 a xs) ∧ R (Itl K a) H1) ∨ (∃ a, x = .ref a ∧ (∃ xs, SqT K H1 a xs) ∧ R (Itt K a) H1) ∨ ∃ z, x = .str z ∧ R (Its z) H1
section
variable {X : Cx} {W : WX} {fx : Nat → Bool}
theorem pi_any {tg l : Expr} {tl : TE} (hl : PE X l tl) : PI X tg l (iAny X.K tl) := by
  constructor
  intro pins s σ H R I h
  refine thn (hl.run pins s σ H _ I h) ?_
  rintro v s1 ⟨x, H1, I1, r1, q1⟩
  rcases q1 with ⟨a, rfl, ⟨xs, hq⟩, q⟩ | ⟨a, rfl, ⟨xs, hq⟩, q⟩ | ⟨z, rfl, q⟩
  · cases r1
    obtain ⟨its, _, p, _⟩ := I1.list hq
    exact wpAny_pyIter_list p.isList (pi_one (tk := s1.toks) I1 _ (turn_list a _) ⟨_, Heap.get?_push_size _ rfl, rfl, rfl⟩ q)
  · cases r1
    obtain ⟨its, _, p, _⟩ := I1.tuple hq
    exact wpAny_pyIter_tuple p (pi_one (tk := s1.toks) I1 _ (turn_tuple a _) ⟨_, Heap.get?_push_size _ rfl, rfl, rfl⟩ q)
  · obtain ⟨t, rfl⟩ := r1
    cases ha : z.cps.all (· < 128)
    · exact wpAny_pyIter_wide ha (pi_one (tk := s1.toks) I1 _ (turn_str _ z t "str_iterator" (.inr rfl)) ⟨_, Heap.get?_push_size _ rfl, rfl, rfl⟩ q)
    · exact wpAny_pyIter_ascii ha (pi_one (tk := s1.toks) I1 _ (turn_str _ z t "str_ascii_iterator" (.inl rfl)) ⟨_, Heap.get?_push_size _ rfl, rfl, rfl⟩ q)
theorem SqL.uniq {K : PySem.W.Frag} {mg : Str → Option Value} {S : Addr → Prop} {σ : St} {H : Hp} : True := trivial
theorem mv_sub {A A' : Nat → List Addr} {T : Addr → Prop} {B : List Addr} (h : ∀ i p, p ∈ A' i → p ∈ A i) : ∀ p, SA A' (TB T B) p → SA A (TB T B) p := fun p z => z.imp id fun ⟨i, z⟩ => ⟨i, h i p z⟩
theorem itok_list {K : PySem.W.Frag} {mg : Str → Option Value} {a : Addr} {ds : List D} : ItOk K mg (Itl K a) ds [.ref a] [.lst ds] := by
  intro S σ H o hS i
  obtain ⟨v, B1, e, o1, _⟩ := o.inv1
  cases e
  cases o1 with
  | lst q l =>
    refine ⟨fun h => ⟨_, q.sq, by rw [l.length]; exact h⟩, fun d e => ?_⟩
    obtain ⟨v, B', h1, h2, h3⟩ := l.get e
    refine ⟨⟨_, v, q.sq, h1⟩, fun x H' ⟨e1, y⟩ => ?_⟩
    subst e1
    have e2 := (y _ (q.sq (K := K))).symm.trans h1
    cases e2
    refine ⟨fun _ _ e => e, ?_⟩
    have hB : B' = [] := by
      cases B' with
      | nil => rfl
      | cons p _ => cases h3 p List.mem_cons_self
    rw [hB] at h2
    exact h2
theorem itok_tup {K : PySem.W.Frag} {mg : Str → Option Value} {a : Addr} {ds : List D} : ItOk K mg (Itt K a) ds [.ref a] [.tup ds] := by
  intro S σ H o hS i
  generalize hB0 : ([] : List Addr) = B0 at o
  obtain ⟨v, B1, e, o1, hb⟩ := o.inv1
  cases e
  subst hB0
  cases o1 with
  | tup q l =>
    refine ⟨fun h => ⟨_, q.sq, by rw [l.length]; exact h⟩, fun d e => ?_⟩
    obtain ⟨v, B', h1, h2, h3⟩ := l.get e
    refine ⟨⟨_, v, q.sq, h1⟩, fun x H' ⟨e1, y⟩ => ?_⟩
    subst e1
    have e2 := (y _ q.sq).symm.trans h1
    cases e2
    refine ⟨fun _ _ e => e, ?_⟩
    have hB : B' = [] := by
      cases B' with
      | nil => rfl
      | cons p _ => cases hb p (h3 p List.mem_cons_self)
    rw [hB] at h2
    exact h2
end
end Dn
/-! Dn10: for, comprehensions. -/
namespace Dn
open PySem PySem.Spec L2

section
variable {X : Cx} {W : WX} {fx : Nat → Bool}
theorem itok_scr {K : PySem.W.Frag} {mg : Str → Option Value} {a : Addr} {ds : List D} : ItOk K mg (Itl K a) ds [.ref a] [.scr ds] := by
  intro S σ H o hS i
  obtain ⟨v, B1, e, o1, _⟩ := o.inv1
  cases e
  cases o1 with
  | scr q l =>
    refine ⟨fun h => ⟨_, q.sq, by rw [l.length]; exact h⟩, fun d e => ?_⟩
    obtain ⟨v, B', h1, h2, h3⟩ := l.get e
    refine ⟨⟨_, v, q.sq, h1⟩, fun x H' ⟨e1, y⟩ => ?_⟩
    subst e1
    have e2 := (y _ q.sq).symm.trans h1
    cases e2
    refine ⟨fun _ _ e => e, ?_⟩
    have hB : B' = [] := by
      cases B' with
      | nil => rfl
      | cons p _ => cases h3 p List.mem_cons_self
    rw [hB] at h2
    exact h2
theorem itok_str {K : PySem.W.Frag} {mg : Str → Option Value} {z : Str} {vs : List V} {sd : List D} : ItOk K mg (Its z) (z.cps.toList.map fun n => .str ⟨#[n]⟩) vs sd := by
  intro S σ H o hS i
  refine ⟨fun h => ?_, fun d e => ?_⟩
  · rw [List.length_map, Array.length_toList] at h; exact h
  · rw [List.getElem?_map] at e
    obtain ⟨n, h1, h2⟩ := Option.map_eq_some_iff.mp e
    subst h2
    have hi : i < z.cps.size := by rw [← Array.length_toList]; exact (List.getElem?_eq_some_iff.mp h1).1
    refine ⟨hi, fun x H' ⟨e1, c, h3, h4⟩ => ?_⟩
    subst e1 h4
    rw [← Array.getElem?_toList, h1] at h3
    cases h3
    exact ⟨fun _ _ e => e, .str _⟩
/-- what is behind a value that is moved and frozen -/
theorem froze {K : PySem.W.Frag} {mg : Str → Option Value} {T : Addr → Prop} {env env2 : Env} {σ : St} {H H1 : Hp} {A A1 : Nat → List Addr} {B1 : List Addr} {v : V} {d d' : D} (I : EnvOk K mg T env σ H A) {env1 : Env} (m1 : Moved A A1 B1 H H1) (I1 : EnvOk K mg (TB T B1) env1 σ H1 A1) (o1 : Ow K mg (SA A1 (TB T B1)) σ H1 B1 v d) (em : mv d env1 = some (d', env2)) :
    ∃ A2, EnvOk K mg T env2 σ H1 A2 ∧ Ow K mg (SA A2 T) σ H1 [] v (frz d') ∧ noBor d' = true ∧ Moved A A2 [] H H1 := by
  obtain ⟨A2, I2, o2, n2, s2⟩ := mv_ok I1 o1 em
  refine ⟨A2, I2.drop, o2.frz (fun p z => z.imp .inl id) (fun p hp z => ?_), n2, ⟨m1.keep, fun p z => ?_⟩⟩
  · rcases z with z | ⟨i, z⟩
    · exact Moved.sepB I m1 p hp z
    · exact I2.sep i p z (.inr hp)
  · rcases z with z | ⟨i, z⟩
    · cases z
    · exact m1.new p (.inr ⟨i, s2 i p z⟩)
theorem si_any {tl : TE} {f : Env → Out D} (hf : SE X W tl f) : SI X W (iAny X.K tl) (dItems f) := fun T env σ H A R I h => by
  refine hf T env σ H A _ I ?_
  unfold dItems at h
  cases e : f env with
  | bad => rw [e] at h; exact h
  | err x env' => rw [e] at h; exact h
  | ok d env1 =>
    rw [e, Out.bind_ok] at h
    intro v H1 A1 B1 m1 I1 o1
    cases em : mv d env1 with
    | none => rw [em] at h; exact h.elim
    | some q =>
      obtain ⟨d', env2⟩ := q
      rw [em] at h
      simp only at h
      obtain ⟨A2, I2, o2, n2, m2⟩ := froze I m1 I1 o1 em
      have nf : noBor (frz d') = true := plain_noBor _ (plain_frz _ n2)
      have src : OwL X.K X.mg (SA A2 T) σ H1 [] [v] [frz d'] := OwL.cons (A := []) (B := []) o2 .nil (by simp)
      have nsd : noBorL [frz d'] = true := by simp [noBorL, nf]
      cases ed : itemsD (frz d') with
      | none => rw [ed] at h; exact h.elim
      | some items =>
        rw [ed] at h
        generalize hg : frz d' = g at *
        cases g with
        | str z =>
          cases ed
          cases o2
          exact .inr (.inr ⟨z, rfl, h.2 _ H1 A2 [] [] m2 I2 .nil rfl itok_str⟩)
        | tup ds =>
          cases ed
          cases o2 with
          | tup i l => exact .inr (.inl ⟨_, rfl, ⟨_, i.sq⟩, h.2 _ H1 A2 _ _ m2 I2 src nsd itok_tup⟩)
        | lst ds =>
          cases ed
          cases o2 with
          | lst i l => exact .inl ⟨_, rfl, ⟨_, i.sq⟩, h.2 _ H1 A2 _ _ m2 I2 src nsd itok_list⟩
        | scr ds =>
          cases ed
          cases o2 with
          | scr i l => exact .inl ⟨_, rfl, ⟨_, i.sq⟩, h.2 _ H1 A2 _ _ m2 I2 src nsd itok_scr⟩
        | own ds => cases d' <;> simp [frz] at hg
        | _ => cases ed
theorem di_any {tg l : Expr} {f : Env → Out D} (hl : DE X W l f) : DI X W tg l (dItems f) := let ⟨_, a, b⟩ := hl; ⟨_, pi_any a, si_any b⟩

/-! ### ranges -/
def small62 (i : Int) : Prop := -(2 ^ 62) ≤ i ∧ i < 2 ^ 62
instance (i : Int) : Decidable (small62 i) := by unfold small62; infer_instance
def rngD (lo : Int) (n : Nat) : List D := (List.range n).map fun (k : Nat) => .int (lo + k)
def dRng (f : Env → Out (List D)) : Env → Out (List D) := fun env => (f env).bind fun ds env1 => match ds with
  | [.int j] => if small62 j then .ok (rngD 0 j.toNat) env1 else .bad
  | [.int i, .int j] => if small62 i ∧ small62 j then .ok (rngD i (j - i).toNat) env1 else .bad
  | _ => .bad
theorem plain_ints : ∀ l : List Int, plainL (l.map D.int) = true
  | [] => rfl
  | i :: l => by simp [plainL, plain, plain_ints l]
theorem plain_rng (lo : Int) (n : Nat) : plainL (rngD lo n) = true := by
  unfold rngD
  have := plain_ints ((List.range n).map fun (k : Nat) => lo + k)
  rw [List.map_map] at this
  exact this
theorem itok_rng {K : PySem.W.Frag} {mg : Str → Option Value} {lo : Int} {n : Nat} {vs : List V} {sd : List D} : ItOk K mg (Itr lo n) (rngD lo n) vs sd := by
  intro S σ H o hS i
  refine ⟨fun h => ?_, fun d e => ?_⟩
  · unfold rngD at h; rw [List.length_map, List.length_range] at h; exact h
  · unfold rngD at e
    rw [List.getElem?_map] at e
    obtain ⟨k, h1, h2⟩ := Option.map_eq_some_iff.mp e
    subst h2
    have hi : i < n := by
      have := (List.getElem?_eq_some_iff.mp h1).1
      rw [List.length_range] at this
      exact this
    rw [List.getElem?_range hi] at h1
    cases h1
    refine ⟨hi, fun x H' ⟨e1, h4⟩ => ?_⟩
    subst e1 h4
    exact ⟨fun _ _ e => e, .int _⟩
theorem si_rng1 {ta : TA} {f : Env → Out (List D)} (hf : SL X W ta f) (h1 : ∀ env ds env', f env = .ok ds env' → ds.length = 1) : SI X W (iRng1 ta) (dRng f) := fun T env σ H A R I h => by
  refine hf T env σ H A _ I ?_
  unfold dRng at h
  cases e : f env with
  | bad => rw [e] at h; exact h
  | err x env' => rw [e] at h; exact h
  | ok ds env1 =>
    rw [e, Out.bind_ok] at h
    intro vs H1 A1 B1 m1 I1 o1
    have hl := h1 _ _ _ e
    split at h
    · obtain ⟨v, B2, rfl, o2, _⟩ := o1.inv1
      cases o2
      split at h
      · rename_i hz
        exact ⟨_, rfl, hz.1, hz.2, h.2 _ H1 A1 [] [] (m1.fewer fun p z => by cases z) I1.drop .nil rfl itok_rng⟩
      · exact h.elim
    · simp at hl
    · exact h.elim
theorem si_rng2 {ta : TA} {f : Env → Out (List D)} (hf : SL X W ta f) (h1 : ∀ env ds env', f env = .ok ds env' → ds.length = 2) : SI X W (iRng2 ta) (dRng f) := fun T env σ H A R I h => by
  refine hf T env σ H A _ I ?_
  unfold dRng at h
  cases e : f env with
  | bad => rw [e] at h; exact h
  | err x env' => rw [e] at h; exact h
  | ok ds env1 =>
    rw [e, Out.bind_ok] at h
    intro vs H1 A1 B1 m1 I1 o1
    have hl := h1 _ _ _ e
    split at h
    · simp at hl
    · obtain ⟨v, u, B2, B3, rfl, o2, o3, _, _⟩ := o1.inv2
      cases o2
      cases o3
      split at h
      · rename_i hz
        exact ⟨_, _, rfl, ⟨hz.1.1, hz.1.2, hz.2.1, hz.2.2⟩, h.2 _ H1 A1 [] [] (m1.fewer fun p z => by cases z) I1.drop .nil rfl itok_rng⟩
      · exact h.elim
    · exact h.elim
theorem dcons_len {f : Env → Out D} {g : Env → Out (List D)} {n : Nat} (h : ∀ env ds env', g env = .ok ds env' → ds.length = n) : ∀ env ds env', dCons f g env = .ok ds env' → ds.length = n + 1 := fun env ds env' e => by
  unfold dCons at e
  cases ef : f env with
  | bad => rw [ef] at e; cases e
  | err x env1 => rw [ef] at e; cases e
  | ok d env1 =>
    rw [ef, Out.bind_ok] at e
    cases eg : g env1 with
    | bad => rw [eg] at e; cases e
    | err x env1 => rw [eg] at e; cases e
    | ok ds' env2 =>
      rw [eg, Out.bind_ok] at e
      cases e
      rw [List.length_cons, h _ _ _ eg]
theorem dnil_len : ∀ env ds env', dNil env = .ok ds env' → ds.length = 0 := fun env ds env' e => by cases e; rfl
theorem di_rng1 {tg a : Expr} {p pos : Pos} {f : Env → Out D} (hg : Gl X "range") (hm : X.mg "range" = none) (ha : DE X W a f) (hs : starEach [a] X.env = [(false, eval a X.env)] := by rfl) : DI X W tg (.Call (.Name "range" p) [a] [] pos) (dRng (dCons f dNil)) := let ⟨_, x, y⟩ := ha; ⟨_, pi_range1 hg hm (pa_cons x pa_nil hs) hs, si_rng1 (sl_cons y sl_nil) (dcons_len dnil_len)⟩
theorem di_rng2 {tg a b : Expr} {p pos : Pos} {f g : Env → Out D} (hg : Gl X "range") (hm : X.mg "range" = none) (ha : DE X W a f) (hb : DE X W b g) (hs : starEach [a, b] X.env = [(false, eval a X.env), (false, eval b X.env)] := by rfl) (hs2 : starEach [b] X.env = [(false, eval b X.env)] := by rfl) :
    DI X W tg (.Call (.Name "range" p) [a, b] [] pos) (dRng (dCons f (dCons g dNil))) := let ⟨_, x, y⟩ := ha; let ⟨_, z, w⟩ := hb; ⟨_, pi_range2 hg hm (pa_cons x (pa_cons z pa_nil hs2) (by rw [hs, hs2])) hs hs2, si_rng2 (sl_cons y (sl_cons w sl_nil)) (dcons_len (dcons_len dnil_len))⟩

/-! ### for -/
/-- the turns -/
def forL (tgt : D → Env → Option Env) (body : Env → SOut) : List D → Env → SOut
  | [], env => .nx env
  | d :: ds, env => match tgt d env with
    | none => .bad
    | some env1 => match body env1 with
      | .nx env2 => forL tgt body ds env2
      | .ct env2 => forL tgt body ds env2
      | .bk env2 => .nx env2
      | o => o
def liftL (o : Out (List D)) (k : List D → Env → SOut) : SOut := match o with
  | .ok d env' => if plainL d = true then k d env' else .bad
  | .err x env' => .err x env'
  | .bad => .bad
def dFor (fi : Env → Out (List D)) (tgt : D → Env → Option Env) (body : Env → SOut) : Env → SOut := fun env => liftL (fi env) fun items env1 => forL tgt body items env1
theorem EnvOk.more {K : PySem.W.Frag} {mg : Str → Option Value} {T : Addr → Prop} {env : Env} {σ : St} {H H' : Hp} {A : Nat → List Addr} (I : EnvOk K mg T env σ H A) (k : ∀ b o, H b = some o → H' b = some o) : EnvOk K mg T env σ H' A := (I.grow (B := []) k (by simp) (by simp)).drop
theorem OwL.moved {K : PySem.W.Frag} {mg : Str → Option Value} {T : Addr → Prop} {σ σ' : St} {H H' : Hp} {A A' : Nat → List Addr} {B' : List Addr} {vs : List V} {ds : List D} (o : OwL K mg (SA A T) σ H [] vs ds) (n : noBorL ds = true) (m : Moved A A' B' H H') : OwL K mg (SA A' T) σ' H' [] vs ds :=
  (o.chg (Bp := fun _ => False) ⟨fun b u e z => m.keep b u e fun i hi => by
      rcases z with z | z
      · exact z (.inr ⟨i, hi⟩)
      · exact z, fun b z y => by
      rcases y with y | y
      · exact .inl y
      · rcases m.new b (.inr y) with q | q
        · exact .inr q
        · exact absurd q z⟩ (fun p hp => by cases hp) fun _ _ _ => .inl n)
theorem ss_for {wi : TI} {g : TG} {tb : TS} {fi : Env → Out (List D)} {tgt : D → Env → Option Env} {body : Env → SOut} (hi : SI X W wi fi) (hg : SG X fx g tgt) (hb : SS X W fx tb body) : SS X W fx (tFor wi g tb) (dFor fi tgt body) := fun T env σ H A N I h => by
  refine hi T env σ H A _ I ?_
  unfold dFor at h
  cases e : fi env with
  | bad => rw [e] at h; exact h
  | err x env' => rw [e] at h; exact fun H' A' m e => h σ H' A' m e .refl
  | ok items env1 =>
    rw [e] at h
    unfold liftL at h
    simp only at h
    split at h
    · rename_i hp
      refine ⟨hp, fun J H1 A1 vs sd m1 I1 o1 nsd ok => ?_⟩
      refine ⟨fun i m σ2 H2 => m = items.length - i ∧ i ≤ items.length ∧ ∃ env2 A2, EnvOk X.K X.mg T env2 σ2 H2 A2 ∧ OwL X.K X.mg (SA A2 T) σ2 H2 [] vs sd ∧ WS X W fx T A2 σ2 H2 (forL tgt body (items.drop i) env2) N,
        ⟨_, rfl, Nat.zero_le _, env1, A1, I1, o1, by rw [List.drop_zero]; exact h.re m1 .refl⟩, ?_⟩
      rintro i m σ2 H2 ⟨rfl, hle, env2, A2, I2, o2, w2⟩
      obtain ⟨ok1, ok2⟩ := ok _ _ _ o2 (fun p z => I2.there p z) i
      by_cases hlt : i < items.length
      · have ei : items[i]? = some items[i] := by simp [hlt]
        obtain ⟨go, yl⟩ := ok2 _ ei
        refine .inr ⟨go, fun σ3 H3 => ∃ env3 A3, EnvOk X.K X.mg T env3 σ3 H3 A3 ∧ OwL X.K X.mg (SA A3 T) σ3 H3 [] vs sd ∧ WS X W fx T A3 σ3 H3 (forL tgt body (items.drop (i + 1)) env3) N, fun σ3 H3 ⟨env3, A3, I3, o3, w3⟩ => ⟨_, by omega, rfl, by omega, env3, A3, I3, o3, w3⟩, fun x H3 y => ?_⟩
        obtain ⟨kp, ox⟩ := yl x H3 y
        rw [List.drop_eq_getElem_cons hlt, forL] at w2
        have pd : plain items[i] = true := plainL_get hp ei
        have I3 : EnvOk X.K X.mg T env2 σ2 H3 A2 := I2.more kp
        have mk : Moved A2 A2 [] H2 H3 := Moved.grown kp (by simp)
        cases et : tgt items[i] env2 with
        | none => rw [et] at w2; exact w2.elim
        | some env3 =>
          rw [et] at w2
          simp only at w2
          refine hg T env2 σ2 H3 A2 [] x items[i] env3 _ (I3.weak tbn) (ox.weak san) (plain_noBor _ pd) (by simp) et fun σ4 A4 I4 s4 f4 => ?_
          have m4 : Moved A2 A4 [] H2 H3 := ⟨mk.keep, fun p z => by
            rcases z with z | ⟨j, z⟩
            · cases z
            · exact (s4 j p z).elim (fun z => by cases z) .inl⟩
          have w4 := w2.re m4 f4
          have o4 : OwL X.K X.mg (SA A4 T) σ4 H3 [] vs sd := o2.moved nsd m4
          refine hb T env3 σ4 H3 A4 _ I4 ?_
          cases eb : body env3 with
          | nx env5 =>
            rw [eb] at w4
            exact fun σ5 H5 A5 m5 I5 f5 => ⟨env5, A5, I5, o4.moved nsd m5, w4.re m5 f5⟩
          | ct env5 =>
            rw [eb] at w4
            exact fun σ5 H5 A5 m5 I5 f5 => ⟨env5, A5, I5, o4.moved nsd m5, w4.re m5 f5⟩
          | bk env5 => rw [eb] at w4; exact w4
          | rt d env5 => rw [eb] at w4; exact w4
          | err x env5 => rw [eb] at w4; exact w4
          | bad => rw [eb] at w4; exact w4
      · have e : i = items.length := by omega
        subst e
        rw [List.drop_length] at w2
        exact .inl ⟨ok1 (Nat.le_refl _), w2 σ2 H2 A2 .refl I2 .refl⟩
    · exact h.elim
end
end Dn
/-! Dn11: list comprehensions. -/
namespace Dn
open PySem PySem.Spec L2

/-- a comprehension's block -/
abbrev blkX (X : Cx) (scope : Scope) (s : Shared) (H : Hp) (C : Addr) (cl : List (Str × Addr)) (fp : List Addr) : Cx := X.blk s H scope (compEnvC scope cl C X.env) fp
section
variable {X : Cx} {W : WX} {scope : Scope}
theorem Sit.blk {k : Nat} (Z : Sit X W k) (s : Shared) (H : Hp) (C : Addr) (cl : List (Str × Addr)) (fp : List Addr) : Sit (blkX X scope s H C cl fp) W0 k := ⟨Z.room, Z.quiet, Z.calm, Z.nd, PassesOwn.never, fun σ => pass_none σ⟩
/-- the reading that is what is wanted itself, in every block -/
def wpE (X : Cx) (scope : Scope) (e : Expr) : TE := fun σ H Q => ∀ s0 H0 C cl fp pins s, Inv (blkX X scope s0 H0 C cl fp) pins σ H s → wpAny (model X.prog X.w) X.A (eval e (compEnvC scope cl C X.env)) (EP (blkX X scope s0 H0 C cl fp) pins σ Q) (fun _ _ => False) s
def wpT (X : Cx) (scope : Scope) (ifs : List Expr) : TT := fun σ H Q => ∀ s0 H0 C cl fp pins s, Inv (blkX X scope s0 H0 C cl fp) pins σ H s →
  wpAny (model X.prog X.w) X.A (forIn ifs true fun c r => if r = true then do let ok ← isTrue c (compEnvC scope cl C X.env) (eval c (compEnvC scope cl C X.env)); pure (ForInStep.yield ok) else pure (ForInStep.yield r)) (TP (blkX X scope s0 H0 C cl fp) pins σ Q) (fun _ _ => False) s
def wpG (X : Cx) (scope : Scope) (tg : Expr) : TG := fun v σ H Q => ∀ s0 H0 C cl fp pins s u, Inv (blkX X scope s0 H0 C cl fp) pins σ H s → RelV v u → wpAny (model X.prog X.w) X.A (assign tg (compEnvC scope cl C X.env) u) (fun _ s' => ∃ σ' H', Inv (blkX X scope s0 H0 C cl fp) pins σ' H' s' ∧ Q σ' H') (fun _ _ => False) s
theorem wpE_pe {e : Expr} (s : Shared) (H : Hp) (C : Addr) (cl : List (Str × Addr)) (fp : List Addr) : PE (blkX X scope s H C cl fp) e (wpE X scope e) := ⟨fun pins s1 σ H1 Q I h => h s H C cl fp pins s1 I⟩
theorem wpT_pt {ifs : List Expr} (s : Shared) (H : Hp) (C : Addr) (cl : List (Str × Addr)) (fp : List Addr) : PTs (blkX X scope s H C cl fp) ifs (wpT X scope ifs) := ⟨fun pins s1 σ H1 Q I h => h s H C cl fp pins s1 I⟩
theorem wpG_pg {tg : Expr} (s : Shared) (H : Hp) (C : Addr) (cl : List (Str × Addr)) (fp : List Addr) : PG (blkX X scope s H C cl fp) tg (wpG X scope tg) := ⟨fun pins s1 σ H1 v u Q I r h => h s H C cl fp pins s1 u I r⟩
theorem wpE_se {e : Expr} {f : Env → Out D} (h : ∀ s H C cl fp, DE (blkX X scope s H C cl fp) W0 e f) : SE X W0 (wpE X scope e) f := fun T env σ H A Q I w s0 H0 C cl fp pins s J => by
  obtain ⟨t, p, q⟩ := h s0 H0 C cl fp
  exact p.run pins s σ H Q J (q T env σ H A Q I w)
/-- a clause's tests -/
def DTs (X : Cx) (W : WX) (ifs : List Expr) (f : Env → Out Bool) : Prop := ∃ t, PTs X ifs t ∧ ST X W t f
theorem dts_nil : DTs X W [] (fun env => .ok true env) := ⟨_, pts_nil, fun T env σ H A Q I h => h H A .refl I⟩
theorem dts_one {c : Expr} {f : Env → Out Bool} (h : DT X W c f) : DTs X W [c] f := let ⟨_, a, b⟩ := h; ⟨_, pts_one a, b⟩
theorem wpT_st {ifs : List Expr} {f : Env → Out Bool} (h : ∀ s H C cl fp, DTs (blkX X scope s H C cl fp) W0 ifs f) : ST X W0 (wpT X scope ifs) f := fun T env σ H A Q I w s0 H0 C cl fp pins s J => by
  obtain ⟨t, p, q⟩ := h s0 H0 C cl fp
  exact p.run pins s σ H Q J (q T env σ H A Q I w)
theorem wpG_sg {tg : Expr} {k : D → Env → Option Env} {fx : Nat → Bool} (h : ∀ s H C cl fp, DG (blkX X scope s H C cl fp) fx tg k) : SG X fx (wpG X scope tg) k := fun T env σ H A B v d env' Q I o n hB e w s0 H0 C cl fp pins s u J r => by
  obtain ⟨t, p, q⟩ := h s0 H0 C cl fp
  exact p.run pins s σ H v u Q J r (q T env σ H A B v d env' Q I o n hB e w)

def wipeE (env : Env) : List Nat → Env
  | [] => env
  | v :: vs => (wipeE env vs).set v none
/-- the turns of a comprehension -/
def lcL (tgt : D → Env → Option Env) (tst : Env → Out Bool) (elt : Env → Out D) (own : List Nat) : List D → List D → Env → Out (List D)
  | [], acc, env => .ok acc env
  | d :: ds, acc, env => match tgt d (wipeE env own) with
    | none => .bad
    | some env1 => match tst env1 with
      | .ok true env2 => match elt env2 with
        | .ok e env3 => match mv e env3 with
          | some (e', env4) => if acc.length < sizeLine then lcL tgt tst elt own ds (acc ++ [frz e']) env4 else .bad
          | none => .bad
        | _ => .bad
      | .ok false env2 => lcL tgt tst elt own ds acc env2
      | _ => .bad
def dLc (fi : Env → Out (List D)) (tgt : D → Env → Option Env) (tst : Env → Out Bool) (elt : Env → Out D) (own : List Nat) : Env → Out D := fun env => match fi env with
  | .ok items env1 => if plainL items = true then match lcL tgt tst elt own items [] env1 with
    | .ok acc env2 => .ok (.own acc) (wipeE env2 own)
    | _ => .bad
    else .bad
  | .err x env1 => .err x env1
  | .bad => .bad
section
variable {K : PySem.W.Frag} {mg : Str → Option Value} {T : Addr → Prop} {env : Env} {σ σ' : St} {H : Hp} {A : Nat → List Addr}
/-- some slots are forgotten -/
theorem EnvOk.wiped (I : EnvOk K mg T env σ H A) : ∀ own : List Nat, ∃ A', EnvOk K mg T (wipeE env own) (wipe σ own) H A' ∧ ∀ i p, p ∈ A' i → p ∈ A i
  | [] => ⟨A, I, fun _ _ z => z⟩
  | v :: own => by
    obtain ⟨A1, I1, s1⟩ := I.wiped own
    exact ⟨setA A1 v [], I1.forget (σ' := (wipe σ own).set v none) (by rw [List.length_set]) fun j hj => by rw [List.getElem?_set_ne (Ne.symm hj)], fun i p z => s1 i p (setA_sub i p z)⟩
/-- slots that say less -/
theorem EnvOk.less (I : EnvOk K mg T env σ H A) (hl : σ'.length = σ.length) (h : ∀ (i : Nat) v, σ[i]? = some (some v) → σ'[i]? = some (some v)) : EnvOk K mg T env σ' H A where
  len := I.len.trans hl.symm
  slot i d e := by
    obtain ⟨n, v, s, o⟩ := I.slot i d e
    exact ⟨n, v, h i v s, o.slots n _⟩
  emp := I.emp
  dis := I.dis
  sep := I.sep
  tt := I.tt
end
theorem wipe_get {σ : St} : ∀ {own : List Nat} {i : Nat}, (wipe σ own)[i]? = if own.contains i = true ∧ i < σ.length then some none else σ[i]?
  | [], i => by simp [wipe]
  | v :: own, i => by
    unfold wipe
    by_cases hv : v = i
    · subst hv
      by_cases hl : v < σ.length
      · rw [List.getElem?_set_self (by rw [wipe_length]; exact hl)]
        simp [hl]
      · rw [List.getElem?_eq_none (by rw [List.length_set, wipe_length]; omega), if_neg (by omega), List.getElem?_eq_none (by omega)]
    · rw [List.getElem?_set_ne hv, wipe_get (own := own)]
      have : ¬ i = v := fun z => hv z.symm
      simp [List.contains_cons, this]
theorem wipe_fix {own : List Nat} {σ σ' : St} (h : Fix (fun i => !own.contains i) (wipe σ own) σ') : wipe σ' own = wipe σ own := by
  have hl : σ'.length = σ.length := by rw [h.1, wipe_length]
  apply List.ext_getElem?
  intro i
  rw [wipe_get, wipe_get, hl]
  split
  · rfl
  · rename_i hn
    by_cases hc : own.contains i = true
    · rw [List.getElem?_eq_none (by have : ¬ i < σ.length := fun z => hn ⟨hc, z⟩; omega), List.getElem?_eq_none (by have : ¬ i < σ.length := fun z => hn ⟨hc, z⟩; omega)]
    · rw [h.2 i (by simpa using hc), wipe_get, if_neg (fun z => hc z.1)]
theorem wipe_wipe {σ : St} {own : List Nat} : wipe (wipe σ own) own = wipe σ own := wipe_fix Fix.refl
/-- a tracked list, while other things are moved -/
theorem kept_at {K : PySem.W.Frag} {mg : Str → Option Value} {T : Addr → Prop} {env : Env} {σ : St} {H H' : Hp} {A A' : Nat → List Addr} {B : List Addr} {L : Addr} {o : HO} (I : EnvOk K mg (TB T [L]) env σ H A) (m : Moved A A' B H H') (e : H L = some o) : H' L = some o :=
  m.keep L o e fun i z => I.sep i L z (.inr List.mem_cons_self)
theorem se_lc {wi : TI} {g : TG} {tt : TT} {te : TE} {fi : Env → Out (List D)} {tgt : D → Env → Option Env} {tst : Env → Out Bool} {elt : Env → Out D} {own : List Nat} (hi : SI X W wi fi) (hg : SG X (fun i => !own.contains i) g tgt) (ht : ST X W0 tt tst) (he : SE X W0 te elt) :
    SE X W (tLc wi g tt te own) (dLc fi tgt tst elt own) := fun T env σ H A Q I h => by
  refine hi T env σ H A _ I ?_
  unfold dLc at h
  cases e : fi env with
  | bad => rw [e] at h; exact h
  | err x env' => rw [e] at h; exact h
  | ok items env1 =>
    rw [e] at h
    simp only at h
    split at h
    · rename_i hp
      refine ⟨hp, fun J H1 A1 vs sd m1 I1 o1 nsd ok => fun L nL => ?_⟩
      have kL := keep_new (ho := HO.lst []) nL
      -- the new list is held aside
      have I2 : EnvOk X.K X.mg (TB T [L]) env1 σ (upd H1 L (.lst [])) A1 := I1.grow kL (new_one nL) fun q hq => by
        rw [List.mem_singleton] at hq; subst hq; rw [upd_same]; simp
      have o2 : OwL X.K X.mg (SA A1 (TB T [L])) σ (upd H1 L (.lst [])) [] vs sd := o1.chg (Bp := fun _ => True) ⟨fun b u e _ => kL b u e, fun b hb z => by
        rcases z with (z | z) | z
        · exact .inl z
        · rw [List.mem_singleton] at z; subst z; exact absurd nL hb
        · exact .inr z⟩ (fun _ _ => trivial) fun _ _ _ => .inl nsd
      refine ⟨fun i m H2 => m = items.length - i ∧ i ≤ items.length ∧ ∃ env2 A2 σ2 acc vacc, Moved A A2 [] H H2 ∧ EnvOk X.K X.mg (TB T [L]) env2 σ2 H2 A2 ∧ wipe σ2 own = wipe σ own ∧ σ2.length = σ.length ∧ OwL X.K X.mg (SA A2 (TB T [L])) σ2 H2 [] vs sd ∧ H2 L = some (.lst vacc) ∧
          OwL X.K X.mg (SA A2 (TB T [L])) σ2 H2 [] vacc acc ∧ plainL acc = true ∧ WD X W T A σ H (match lcL tgt tst elt own (items.drop i) acc env2 with | .ok acc env2 => .ok (.own acc) (wipeE env2 own) | _ => .bad) Q,
        ⟨_, rfl, Nat.zero_le _, env1, A1, σ, [], [], ⟨fun b u e nb => kL b u (m1.keep b u e nb), fun p z => m1.new p z⟩, I2, rfl, rfl, o2, upd_same, .nil, rfl, by rw [List.drop_zero]; exact h⟩, ?_⟩
      rintro i m H2 ⟨rfl, hle, env2, A2, σ2, acc, vacc, m2, I2, hw2, hl2, o2, eL, oL, pL, w2⟩
      obtain ⟨ok1, ok2⟩ := ok _ _ _ o2 (fun p z => I2.there p z) i
      by_cases hlt : i < items.length
      · have ei : items[i]? = some items[i] := by simp [hlt]
        obtain ⟨go, yl⟩ := ok2 _ ei
        refine .inr ⟨go, _, fun H3 z => ⟨items.length - (i + 1), by omega, rfl, by omega, z⟩, fun x H3 y => ?_⟩
        obtain ⟨kp, ox⟩ := yl x H3 y
        rw [List.drop_eq_getElem_cons hlt, lcL] at w2
        have pd : plain items[i] = true := plainL_get hp ei
        -- the slots of the block forgotten
        obtain ⟨A2w, I2w, s2w⟩ := I2.wiped own
        have I2s : EnvOk X.K X.mg (TB T [L]) (wipeE env2 own) (wipe σ own) H3 A2w := by rw [← hw2]; exact I2w.more kp
        have mw : Moved A2 A2w [] H2 H3 := ⟨fun b o e _ => kp b o e, fun p z => by
          rcases z with z | ⟨j, z⟩
          · cases z
          · exact .inl ⟨j, s2w j p z⟩⟩
        cases et : tgt items[i] (wipeE env2 own) with
        | none => rw [et] at w2; exact w2.elim
        | some env3 =>
          rw [et] at w2
          simp only at w2
          refine hg (TB T [L]) (wipeE env2 own) (wipe σ own) H3 A2w [] x items[i] env3 _ (I2s.weak tbn) ((ox.slots (plain_noBor _ pd) _).weak fun p z => ?_) (plain_noBor _ pd) (by simp) et fun σ4 A4 I4 s4 f4 => ?_
          · rcases z with (z | z) | ⟨j, z⟩
            · exact .inl z
            · cases z
            · exact .inr ⟨j, s2w j p z⟩
          have m4 : Moved A2 A4 [] H2 H3 := ⟨mw.keep, fun p z => by
            rcases z with z | ⟨j, z⟩
            · cases z
            · rcases s4 j p z with z | ⟨k, z⟩
              · cases z
              · exact .inl ⟨k, s2w k p z⟩⟩
          have hw4 : wipe σ4 own = wipe σ own := wipe_fix f4
          have hl4 : σ4.length = σ.length := by rw [f4.1, wipe_length]
          refine ⟨hw4.trans wipe_wipe.symm |>.trans (by rw [wipe_wipe]), ?_⟩
          have eL3 : H3 L = some (.lst vacc) := kp L _ eL
          have nacc : noBorL acc = true := plainL_noBor _ pL
          refine ht (TB T [L]) env3 σ4 H3 A4 _ I4 ?_
          cases e5 : tst env3 with
          | bad => rw [e5] at w2; exact w2.elim
          | err x env' => rw [e5] at w2; exact w2.elim
          | ok b env5 =>
            rw [e5] at w2
            intro H5 A5 m5 I5
            have m25 : Moved A2 A5 [] H2 H5 := m4.trans m5 fun p z => by cases z
            cases b with
            | false =>
              rw [if_neg Bool.false_ne_true]
              exact ⟨env5, A5, σ4, acc, vacc, m2.trans m25 (fun p z => by cases z), I5, hw4, hl4, o2.moved nsd m25, kept_at I2 m25 eL, oL.moved nacc m25, pL, w2⟩
            | true =>
              rw [if_pos rfl]
              simp only at w2
              refine he (TB T [L]) env5 σ4 H5 A5 _ I5 ?_
              cases e6 : elt env5 with
              | bad => rw [e6] at w2; exact w2.elim
              | err x env' => rw [e6] at w2; exact w2.elim
              | ok d6 env6 =>
                rw [e6] at w2
                simp only at w2
                intro v6 H6 A6 B6 m6 I6 o6
                cases em : mv d6 env6 with
                | none => rw [em] at w2; exact w2.elim
                | some q =>
                  obtain ⟨d7, env7⟩ := q
                  rw [em] at w2
                  simp only at w2
                  by_cases hz : acc.length < sizeLine
                  · rw [if_pos hz] at w2
                    obtain ⟨A7, I7, o7, n7, m7⟩ := froze I5 m6 I6 o6 em
                    have m27 : Moved A2 A7 [] H2 H6 := m25.trans m7 fun p z => by cases z
                    have eL6 : H6 L = some (.lst vacc) := kept_at I2 m27 eL
                    have hlen : vacc.length = acc.length := oL.length
                    refine ⟨vacc, eL6, by rw [hlen]; exact hz, env7, A7, σ4, acc ++ [frz d7], vacc ++ [v6], ?_⟩
                    -- the list held aside grows
                    have nLA : ∀ j, L ∉ A7 j := fun j z => I7.sep j L z (.inr List.mem_cons_self)
                    have cg : ∀ {Bp : Addr → Prop}, Chg (SA A7 (TB T [L])) (SA A7 (TB T [L])) (fun b => b ≠ L) H6 (upd H6 L (.lst (vacc ++ [v6]))) := fun {Bp} => ⟨fun b u e z => by
                      have hb : b ≠ L := fun q => by
                        subst q
                        rcases z with z | z
                        · exact z (.inl (.inr List.mem_cons_self))
                        · exact z rfl
                      rw [upd_ne hb]; exact e, fun _ _ z => z⟩
                    refine ⟨⟨fun b u e nb => ?_, fun p z => ?_⟩, ⟨I7.len, fun j d e => ?_, I7.emp, I7.dis, I7.sep, fun p z => ?_⟩, hw4, hl4, ?_, upd_same, ?_, ?_, w2⟩
                    · have hb : b ≠ L := fun q => by
                        subst q
                        have := m1.keep b u e nb
                        rw [nL] at this
                        cases this
                      rw [upd_ne hb]
                      exact (m2.trans m27 (B := []) fun p z => by cases z).keep b u e nb
                    · exact (m2.trans m27 (B := []) fun p z => by cases z).new p z
                    · obtain ⟨n, v, s, o⟩ := I7.slot j d e
                      exact ⟨n, v, s, o.chg (Bp := fun b => b ≠ L) (cg (Bp := fun _ => True)) (fun p hp q => nLA j (q ▸ hp)) fun _ _ e => .inr e⟩
                    · by_cases hb : p = L
                      · subst hb; rw [upd_same]; simp
                      · rw [upd_ne hb]; exact I7.tt p z
                    · exact (o2.moved (σ' := σ4) nsd m27).chg (Bp := fun b => b ≠ L) (cg (Bp := fun _ => True)) (fun p hp => by cases hp) fun _ _ e => .inr e
                    · refine OwL.app ?_ rfl ?_
                      · exact (oL.moved (σ' := σ4) nacc m27).chg (Bp := fun b => b ≠ L) (cg (Bp := fun _ => True)) (fun p hp => by cases hp) fun _ _ e => .inr e
                      · exact OwL.cons (A := []) (B := []) (o7.chg (Bp := fun b => b ≠ L) (cg (Bp := fun _ => True)) (fun p hp => by cases hp) fun _ _ e => .inr e) .nil (by simp)
                    · rw [plainL_append, pL]
                      simp [plainL, plain_frz _ n7]
                  · rw [if_neg hz] at w2; exact w2.elim
      · have e : i = items.length := by omega
        subst e
        rw [List.drop_length, lcL] at w2
        refine .inl ⟨ok1 (Nat.le_refl _), ?_⟩
        obtain ⟨A3, I3, s3⟩ := I2.wiped own
        have I4 : EnvOk X.K X.mg (TB T [L]) (wipeE env2 own) σ H2 A3 := I3.less (by rw [wipe_length, hl2]) fun j v e => by
          rw [hw2] at e
          exact (wipe_some e).1
        refine w2 _ H2 A3 [L] ⟨m2.keep, fun p z => ?_⟩ I4 (.own eL (by simp) ((oL.weak fun p z => z.imp id fun ⟨j, z⟩ => ⟨j, s3 j p z⟩).slots (plainL_noBor _ pL) σ))
        rcases z with z | ⟨j, z⟩
        · rw [List.mem_singleton] at z
          subst z
          exact m1.back nL
        · exact m2.new p (.inr ⟨j, s3 j p z⟩)
    · exact h.elim
/-- [elt for tg in iter if ..]: own, the block's names and their slots -/
theorem de_lc {k : Nat} {elt tg iter : Expr} {ifs : List Expr} {pos : Pos} {fi : Env → Out (List D)} {tgt : D → Env → Option Env} {tst : Env → Out Bool} {f : Env → Out D} (own : List (Str × Nat)) (Z : Sit X W k) (hi : DI X W tg iter fi) (ok : blkC X.N X.env.scope scope own = true)
    (hg : ∀ s H C cl fp, DG (blkX X scope s H C cl fp) (fun i => !(own.map (·.2)).contains i) tg tgt) (ht : ∀ s H C cl fp, DTs (blkX X scope s H C cl fp) W0 ifs tst) (he : ∀ s H C cl fp, DE (blkX X scope s H C cl fp) W0 elt f) (hs : ∀ x, foldedSetIterable iter X.env x = pure x := by intro _; rfl) :
    DE X W (.ListComp elt [⟨tg, iter, ifs, 0⟩] scope pos) (dLc fi tgt tst f (own.map (·.2))) := by
  obtain ⟨_, a, b⟩ := hi
  exact ⟨_, pe_lc Z.calm Z.nd a (blkOk_by ok) (fun s H C cl fp => wpG_pg s H C cl fp) (fun s H C cl fp => wpT_pt s H C cl fp) (fun s H C cl fp => wpE_pe s H C cl fp) hs, se_lc b (wpG_sg hg) (wpT_st ht) (wpE_se he)⟩
/-- y = [elt for tg in iter if ..], a statement of its own -/
theorem ds_setLc {k i : Nat} {y : Str} {py : Pos} {elt tg iter : Expr} {ifs : List Expr} {pos spos : Pos} {fi : Env → Out (List D)} {tgt : D → Env → Option Env} {tst : Env → Out Bool} {f : Env → Out D} {fx : Nat → Bool} (own : List (Str × Nat)) (Z : Sit X W k) (hy : X.N[i]? = some y) (hyl : X.env.scope.names.lookup y = some .local) (hfx : fx i = false)
    (hsw : swapsWith (.ListComp elt [⟨tg, iter, ifs, 0⟩] scope pos) (some (.Name y py)) spos.line X.env = pure true) (hi : DI X W tg iter fi) (ok : blkC X.N X.env.scope scope own = true)
    (hg : ∀ s H C cl fp, DG (blkX X scope s H C cl fp) (fun i => !(own.map (·.2)).contains i) tg tgt) (ht : ∀ s H C cl fp, DTs (blkX X scope s H C cl fp) W0 ifs tst) (he : ∀ s H C cl fp, DE (blkX X scope s H C cl fp) W0 elt f) (hs : ∀ x, foldedSetIterable iter X.env x = pure x := by intro _; rfl) :
    DS X W fx (.Assign [.Name y py] (.ListComp elt [⟨tg, iter, ifs, 0⟩] scope pos) spos) (dSet i (dLc fi tgt tst f (own.map (·.2)))) := by
  obtain ⟨_, a, b⟩ := hi
  exact ⟨_, ps_setLc Z.calm Z.nd hy hyl hsw a (blkOk_by ok) (fun s H C cl fp => wpG_pg s H C cl fp) (fun s H C cl fp => wpT_pt s H C cl fp) (fun s H C cl fp => wpE_pe s H C cl fp) hs, ss_set hfx (se_lc b (wpG_sg hg) (wpT_st ht) (wpE_se he))⟩
end
end Dn
/-! Dn12: calls of defs, a def by its body. -/
namespace Dn
open PySem PySem.Spec L2

section
variable {K : PySem.W.Frag} {mg : Str → Option Value} {S T T0 Sc : Addr → Prop} {env env' : Env} {σ σ' : St} {H H' : Hp} {A A' : Nat → List Addr} {B : List Addr} {v : V} {vs : List V} {d d' : D} {ds ds' : List D}
mutual
/-- what a callee sees: all frozen -/
theorem Ow.view (I : EnvOk K mg T0 env σ H A) (hS : ∀ p, Sc p → SA A T0 p) : ∀ {B : List Addr} {v : V} {d : D}, Ow K mg (SA A T0) σ H B v d → (∀ p ∈ B, ¬ Sc p) → (∀ i ∈ bors d, ∀ p ∈ A i, ¬ Sc p) → noBor (sub env d) = true → Ow K mg Sc σ' H [] v (frz (sub env d))
  | _, _, _, .non, _, _, _ => .non
  | _, _, _, .bl b, _, _, _ => .bl b
  | _, _, _, .int b, _, _, _ => .int b
  | _, _, _, .str b, _, _, _ => .str b
  | _, _, _, .tup i l, hB, h, n => .tup (i.elim (fun h => .inl ⟨fun z => h.1 (hS _ z), h.2⟩) .inr) (OwL.view I hS l hB h (by simpa [sub, noBor] using n))
  | _, _, _, .lst i l, hB, h, n => .lst ⟨fun z => i.1 (hS _ z), i.2⟩ (OwL.view I hS l hB h (by simpa [sub, noBor] using n))
  | _, _, _, .scr i l, hB, h, n => .scr (i.elim (fun h => .inl ⟨fun z => h.1 (hS _ z), h.2⟩) .inr) (OwL.view I hS l hB h (by simpa [sub, noBor] using n))
  | _, _, _, .own i q l, hB, h, n => .lst ⟨hB _ List.mem_cons_self, i⟩ (OwL.view I hS l (fun p hp => hB p (List.mem_cons_of_mem _ hp)) h (by simpa [sub, noBor] using n))
  | _, _, _, .dic i l, hB, h, n => .dic ⟨fun z => i.1 (hS _ z), i.2⟩ (OwL.view I hS l hB h (by simpa [sub, noBor] using n))
  | _, _, _, .odic i g q l, hB, h, n => .dic ⟨hB _ List.mem_cons_self, i, g⟩ (OwL.view I hS l (fun p hp => hB p (List.mem_cons_of_mem _ hp)) h (by simpa [sub, noBor] using n))
  | _, _, _, @Ow.bor _ _ _ _ _ i v s, hB, h, n => by
    rw [sub] at n ⊢
    split at n
    · rename_i d' e'
      obtain ⟨nb, u, s', o⟩ := I.slot i d' e'
      rw [s] at s'
      cases s'
      exact (o.frz hS (h i (by simp [bors]))).slots (plain_noBor _ (plain_frz _ nb)) σ'
    · simp [noBor] at n
theorem OwL.view (I : EnvOk K mg T0 env σ H A) (hS : ∀ p, Sc p → SA A T0 p) : ∀ {B : List Addr} {v : List V} {d : List D}, OwL K mg (SA A T0) σ H B v d → (∀ p ∈ B, ¬ Sc p) → (∀ i ∈ borsL d, ∀ p ∈ A i, ¬ Sc p) → noBorL (subL env d) = true → OwL K mg Sc σ' H [] v (frzL (subL env d))
  | _, _, _, .nil, _, _, _ => .nil
  | _, _, _, .cons a b q, hB, h, n => by
    simp only [subL, noBorL, Bool.and_eq_true] at n
    exact OwL.cons (A := []) (B := []) (Ow.view I hS a (fun p hp => hB p (List.mem_append_left _ hp)) (fun i hi => h i (by rw [borsL]; exact List.mem_append_left _ hi)) n.1)
      (OwL.view I hS b (fun p hp => hB p (List.mem_append_right _ hp)) (fun i hi => h i (by rw [borsL]; exact List.mem_append_right _ hi)) n.2) (by simp)
end
mutual
theorem Ow.kind : ∀ {B : List Addr} {v : V} {d : D}, Ow K mg S σ H B v d → ∀ q ∈ B, (∃ xs, H q = some (.lst xs)) ∨ ∃ ks, H q = some (.dK ks)
  | _, _, _, .non, _, h => by simp at h
  | _, _, _, .bl b, _, h => by simp at h
  | _, _, _, .int b, _, h => by simp at h
  | _, _, _, .str b, _, h => by simp at h
  | _, _, _, .tup _ l, p, h => OwL.kind l p h
  | _, _, _, .lst _ l, _, h => by simp at h
  | _, _, _, .scr _ l, _, h => by simp at h
  | _, _, _, .own e n l, p, h => by
    rcases List.mem_cons.mp h with rfl | h
    · exact .inl ⟨_, e⟩
    · exact OwL.kind l p h
  | _, _, _, .dic _ l, _, h => by simp at h
  | _, _, _, .odic e _ n l, p, h => by
    rcases List.mem_cons.mp h with rfl | h
    · exact .inr ⟨_, e⟩
    · exact OwL.kind l p h
  | _, _, _, .bor _, _, h => by simp at h
theorem OwL.kind : ∀ {B : List Addr} {v : List V} {d : List D}, OwL K mg S σ H B v d → ∀ q ∈ B, (∃ xs, H q = some (.lst xs)) ∨ ∃ ks, H q = some (.dK ks)
  | _, _, _, .nil, _, h => by simp at h
  | _, _, _, .cons a b _, p, h => by
    rcases List.mem_append.mp h with h | h
    · exact Ow.kind a p h
    · exact OwL.kind b p h
end
theorem EnvOk.kind (I : EnvOk K mg T env σ H A) {i : Nat} {q : Addr} (h : q ∈ A i) : (∃ xs, H q = some (.lst xs)) ∨ ∃ ks, H q = some (.dK ks) := by
  by_cases z : ∃ d, env[i]? = some (some d)
  · obtain ⟨d, z⟩ := z
    obtain ⟨_, v, _, o⟩ := I.slot i d z
    exact o.kind q h
  · rw [I.emp i fun d e => z ⟨d, e⟩] at h
    cases h
/-- an environment of given things -/
theorem OwL.envOk : ∀ {vs : List V} {ds : List D}, OwL K mg T σ H [] vs ds → noBorL ds = true → (∀ p, T p → H p ≠ none) → EnvOk K mg T (ds.map some) (vs.map some) H (fun _ => []) := fun {vs ds} o n ht => by
  have sa : ∀ p, SA (fun _ => []) T p → T p := fun p z => z.elim id fun ⟨i, z⟩ => by cases z
  refine ⟨by rw [List.length_map, List.length_map, o.length], fun i d e => ?_, fun _ _ => rfl, (fun i j p _ hp => by cases hp), (fun i p hp => by cases hp), ht⟩
  rw [List.getElem?_map] at e
  obtain ⟨d', h1, h2⟩ := Option.map_eq_some_iff.mp e
  cases h2
  obtain ⟨v, B', h3, h4, h5⟩ := o.get h1
  have hB : B' = [] := by
    cases B' with
    | nil => rfl
    | cons p _ => cases h5 p List.mem_cons_self
  rw [hB] at h4
  have nd : noBor d = true := by
    clear h3 h4 h5 o e
    induction ds generalizing i with
    | nil => simp at h1
    | cons x ds ih =>
      simp only [noBorL, Bool.and_eq_true] at n
      cases i with
      | zero => simp at h1; subst h1; exact n.1
      | succ i => exact ih n.2 i (by simpa using h1)
  exact ⟨nd, v, by rw [List.getElem?_map, h3]; rfl, (h4.weak sa).slots nd _⟩
end

/-! ### calls: every argument is lent -/
/-- behind a call: what was lent is the holder's again, if nothing of it can have been kept -/
def back (l : List Nat) (safe : Bool) (env : Env) : Env := if l.isEmpty || safe then env else l.foldl frzAt env
def callD (F : List D → Out D) (ds : List D) (env : Env) : Out D := if noBorL (subL env ds) = true then
    match F (frzL (subL env ds)) with
    | .ok r _ => .ok r (back (borsL ds) (noLst r) env)
    | .err x _ => .err x env
    | .bad => .bad
  else .bad
section
variable {X : Cx} {W : WX} {k n : Nat} {f : Addr} {fd : FuncData} {ps : List Str} {F : List D → Out D}
theorem WErr.of_call {T : Addr → Prop} {A : Nat → List Addr} {σ : St} {H : Hp} {x : Exn} {env' : Env} (h : WErr X W T A σ H x env') {H' : Hp} {A' : Nat → List Addr} (m : Moved A A' [] H H') (I : EnvOk X.K X.mg T env' σ H' A') : ∀ C : Addr, X.mg x.cls = some (.ref C) → x.ns = [] → W (.ref C) none σ H' := h H' A' m I
/-- the callee's promise from what stands behind the arguments -/
theorem call_ok {T : Addr → Prop} {env : Env} {A : Nat → List Addr} {σ : St} {H : Hp} {Q : VK} {ds : List D} {vs : List V} {B : List Addr} (hl : ds.length = n) (I : EnvOk X.K X.mg (TB T B) env σ H A) (hB : ∀ p ∈ B, ¬ T p) (o : OwL X.K X.mg (SA A (TB T B)) σ H B vs ds) (h : WD X W T A σ H (callD F ds env) Q) :
    spD X.K X.mg n F vs H Q (WE W σ) := by
  unfold callD at h
  split at h
  · rename_i hn
    refine ⟨o.length.trans hl, fun p => T p ∨ ∃ i, i ∉ borsL ds ∧ p ∈ A i, frzL (subL env ds), fun _ => [], ?_, ?_⟩
    · refine OwL.envOk (σ := σ) (o.view (Sc := fun p => T p ∨ ∃ i, i ∉ borsL ds ∧ p ∈ A i) (σ' := σ) I (fun p z => ?_) (fun p hp z => ?_) (fun i hi p hp z => ?_) hn) (plainL_noBor _ (plainL_frz _ hn)) fun p z => ?_
      · exact z.elim (fun z => .inl (.inl z)) fun ⟨i, _, z⟩ => .inr ⟨i, z⟩
      · rcases z with z | ⟨i, _, z⟩
        · exact hB p hp z
        · exact I.sep i p z (.inr hp)
      · rcases z with z | ⟨j, hj, z⟩
        · exact I.sep i p hp (.inl z)
        · exact I.dis i j p (fun q => hj (q ▸ hi)) hp z
      · rcases z with z | ⟨i, _, z⟩
        · exact I.tt p (.inl z)
        · exact I.there p (.inr ⟨i, z⟩)
    · cases eF : F (frzL (subL env ds)) with
      | bad => rw [eF] at h; exact h
      | err x outs =>
        rw [eF] at h
        refine fun H' A' m I' => ?_
        have kp : ∀ b o, H b = some o → H' b = some o := fun b o e => m.keep b o e fun i z => by cases z
        exact fun C h1 h2 => h H' A (Moved.grown kp (by simp)) (I.drop.more kp) C h1 h2
      | ok r outs =>
        rw [eF] at h
        simp only at h
        intro v H' A' B' m I' w nr
        have kp : ∀ b o, H b = some o → H' b = some o := fun b o e => m.keep b o e fun i z => by cases z
        have nB : ∀ p ∈ B', H p = none := fun p hp => (m.new p (.inl hp)).elim (fun ⟨i, z⟩ => by cases z) id
        have IB : EnvOk X.K X.mg (TB T B') env σ H' A := I.drop.grow kp nB fun p hp => w.there p hp
        have mB : Moved A A B' H H' := Moved.grown kp nB
        -- the result doesn't reach what wasn't lent
        have w0 : Ow X.K X.mg (fun p => TB T B' p ∨ ∃ i, i ∉ borsL ds ∧ p ∈ A i) σ H' B' v r := (w.weak fun p z => by
          rcases z with (z | z) | z
          · exact .inl (.inl (.inl z))
          · exact .inl (.inr z)
          · exact .inl (.inl (.inr z))).slots nr σ
        unfold back at h
        split at h
        · rename_i hs
          refine h v H' A B' mB IB ?_
          by_cases hl : borsL ds = []
          · refine w0.weak fun p z => z.elim .inl fun ⟨i, z⟩ => .inr ⟨i, by rw [hl]; simp, z⟩
          · have sf : noLst r = true := by
              rcases Bool.or_eq_true_iff.mp hs with z | z
              · exact absurd (List.isEmpty_iff.mp z) hl
              · exact z
            refine (w0.apart (Sq := fun p => ∃ i, p ∈ A i) (fun q ⟨i, z⟩ => IB.kind z) sf).weak fun p z => z.elim (fun z => .inl (.inl z)) .inr
        · obtain ⟨A2, I2, s2, t2, _⟩ := IB.frzAll (borsL ds)
          refine h v H' A2 B' ⟨mB.keep, fun p z => mB.new p (z.imp id fun ⟨i, z⟩ => ⟨i, s2 i p z⟩)⟩ I2 (w0.weak fun p z => ?_)
          rcases z with z | ⟨i, z⟩
          · exact .inl z
          · refine .inr ⟨i, fun hi => ?_, s2 i p z⟩
            rw [t2 i hi] at z
            cases z
  · exact h.elim
def safeO (o : Option D) : Bool := match o with
  | some o => noLst o
  | none => true
/-- the first argument is handed over, and comes back as the callee leaves it -/
def callM (F : List D → Out D) (ds : List D) (env : Env) : Out D := match ds with
  | .bor i0 :: rest => match env[i0]? with
    | some (some d0) => if noBorL (subL env rest) = true ∧ (borsL rest).contains i0 = false then
        match F (d0 :: frzL (subL env rest)) with
        | .ok r (o0 :: _) => .ok r ((back (borsL rest) (noLst r && safeO o0) env).set i0 o0)
        | .err x (o0 :: _) => .err x (((borsL rest).foldl frzAt env).set i0 o0)
        | _ => .bad
      else .bad
    | _ => .bad
  | _ => .bad
theorem noBorL_get {ds : List D} (n : noBorL ds = true) {i : Nat} {d : D} (h : ds[i]? = some d) : noBor d = true := by
  induction ds generalizing i with
  | nil => simp at h
  | cons x ds ih =>
    simp only [noBorL, Bool.and_eq_true] at n
    cases i with
    | zero => simp at h; subst h; exact n.1
    | succ i => exact ih n.2 (by simpa using h)
/-- a slot's thing is another one now, held by the same value; out: forgotten -/
theorem EnvOk.swap {K : PySem.W.Frag} {mg : Str → Option Value} {T : Addr → Prop} {env : Env} {σ : St} {H : Hp} {A : Nat → List Addr} {C : List Addr} {i : Nat} {v : V} {o : Option D} (I : EnvOk K mg (TB T C) (env.set i none) σ H (setA A i [])) (hi : i < env.length) (hv : σ[i]? = some (some v)) (hC : ∀ p ∈ C, ¬ T p)
    (ho : match o with | some d => noBor d = true ∧ Ow K mg (SA (setA A i C) T) σ H C v d | none => C = []) : EnvOk K mg T (env.set i o) σ H (setA A i C) := by
  have e1 : ∀ j, j ≠ i → (env.set i o)[j]? = (env.set i none)[j]? := fun j hj => by rw [List.getElem?_set_ne (Ne.symm hj), List.getElem?_set_ne (Ne.symm hj)]
  have ss : ∀ p, SA (setA A i C) T p → SA (setA A i []) (TB T C) p := fun p z => by
    rcases z with z | ⟨j, z⟩
    · exact .inl (.inl z)
    · by_cases hj : j = i
      · subst hj; rw [setA_same] at z; exact .inl (.inr z)
      · rw [setA_ne hj] at z; exact .inr ⟨j, by rw [setA_ne hj]; exact z⟩
  refine ⟨by rw [List.length_set]; have := I.len; rw [List.length_set] at this; exact this, fun j d e => ?_, fun j h => ?_, fun j l p hjl hp => ?_, fun j p hp z => ?_, fun p z => I.tt p (.inl z)⟩
  · by_cases hj : j = i
    · subst hj
      rw [List.getElem?_set_self hi] at e
      cases e
      rw [setA_same]
      exact ⟨ho.1, v, hv, ho.2⟩
    · rw [e1 j hj] at e
      obtain ⟨n, u, s, w⟩ := I.slot j d e
      rw [setA_ne hj] at w ⊢
      exact ⟨n, u, s, w.weak ss⟩
  · by_cases hj : j = i
    · subst hj
      rw [setA_same]
      cases o with
      | none => exact ho
      | some d => exact absurd (List.getElem?_set_self hi) (h d)
    · rw [setA_ne hj]
      have := I.emp j fun d e => h d (by rw [e1 j hj]; exact e)
      rw [setA_ne hj] at this
      exact this
  · by_cases hj : j = i
    · subst hj
      rw [setA_same] at hp
      rw [setA_ne (Ne.symm hjl)]
      intro z
      exact I.sep l p (by rw [setA_ne (Ne.symm hjl)]; exact z) (.inr hp)
    · rw [setA_ne hj] at hp
      by_cases hl : l = i
      · subst hl; rw [setA_same]; exact fun z => I.sep j p (by rw [setA_ne hj]; exact hp) (.inr z)
      · rw [setA_ne hl]
        have := I.dis j l p hjl (by rw [setA_ne hj]; exact hp)
        rw [setA_ne hl] at this
        exact this
  · by_cases hj : j = i
    · subst hj
      rw [setA_same] at hp
      exact hC p hp z
    · rw [setA_ne hj] at hp
      exact I.sep j p (by rw [setA_ne hj]; exact hp) (.inl z)
/-- what stands beside the thing that is handed over -/
theorem EnvOk.beside {K : PySem.W.Frag} {mg : Str → Option Value} {T : Addr → Prop} {env : Env} {σ : St} {H H' : Hp} {A : Nat → List Addr} {C G : List Addr} (I : EnvOk K mg (TB T C) env σ H A) (hC : ∀ p ∈ C, ¬ T p) (kp : ∀ b o, H b = some o → b ∉ C → H' b = some o) (hG : ∀ p ∈ G, p ∈ C ∨ H p = none) (hG' : ∀ p ∈ G, H' p ≠ none) : EnvOk K mg (TB T G) env σ H' A where
  len := I.len
  slot i d e := by
    obtain ⟨n, v, s, o⟩ := I.slot i d e
    refine ⟨n, v, s, o.chg (Bp := fun b => b ∉ C) ⟨fun b u e z => kp b u e (z.elim (fun z q => z (.inl (.inr q))) id), fun b hb z => ?_⟩ (fun p hp q => I.sep i p hp (.inr q)) fun _ _ e => .inr e⟩
    rcases z with (z | z) | z
    · exact .inl (.inl z)
    · exact (hG b z).elim (fun z => .inl (.inr z)) fun z => absurd z hb
    · exact .inr z
  emp := I.emp
  dis := I.dis
  sep i p hp z := by
    rcases z with z | z
    · exact I.sep i p hp (.inl z)
    · exact (hG p z).elim (fun z => I.sep i p hp (.inr z)) fun z => I.there p (.inr ⟨i, hp⟩) z
  tt p z := by
    rcases z with z | z
    · have h1 := I.tt p (.inl z)
      cases e : H p with
      | none => exact absurd e h1
      | some u => rw [kp p u e fun q => hC p q z]; simp
    · exact hG' p z
theorem callM_ok {T : Addr → Prop} {env : Env} {A : Nat → List Addr} {σ : St} {H : Hp} {Q : VK} {ds : List D} {vs : List V} {B : List Addr} (hl : ds.length = n) (I : EnvOk X.K X.mg (TB T B) env σ H A) (hB : ∀ p ∈ B, ¬ T p) (o : OwL X.K X.mg (SA A (TB T B)) σ H B vs ds) (h : WD X W T A σ H (callM F ds env) Q) :
    spD X.K X.mg n F vs H Q (WE W σ) := by
  unfold callM at h
  split at h
  · rename_i i0 rest
    split at h
    · rename_i d0 e0
      split at h
      · rename_i hn
        obtain ⟨hn, hi0⟩ := hn
        have hi0' : i0 ∉ borsL rest := fun z => by
          rw [List.contains_iff_mem.mpr z] at hi0
          cases hi0
        have hlen : i0 < env.length := (List.getElem?_eq_some_iff.mp e0).1
        obtain ⟨nb0, v0, s0, o0⟩ := I.slot i0 d0 e0
        refine ⟨o.length.trans hl, fun p => T p ∨ ∃ i, i ≠ i0 ∧ i ∉ borsL rest ∧ p ∈ A i, d0 :: frzL (subL env rest), setA (fun _ => []) 0 (A i0), ?_, ?_⟩
        · cases o with
          | @cons B1 B2 v vs' _ _ o1 l nn =>
            cases o1 with
            | bor s1 =>
              rw [s0] at s1
              cases s1
              have sc : ∀ p, SA (setA (fun _ => []) 0 (A i0)) (fun p => T p ∨ ∃ i, i ≠ i0 ∧ i ∉ borsL rest ∧ p ∈ A i) p → T p ∨ p ∈ A i0 ∨ ∃ i, i ≠ i0 ∧ i ∉ borsL rest ∧ p ∈ A i := fun p z => by
                rcases z with (z | z) | ⟨j, z⟩
                · exact .inl z
                · exact .inr (.inr z)
                · by_cases hj : j = 0
                  · subst hj; rw [setA_same] at z; exact .inr (.inl z)
                  · rw [setA_ne hj] at z; cases z
              have lv : OwL X.K X.mg (SA (setA (fun _ => []) 0 (A i0)) (fun p => T p ∨ ∃ i, i ≠ i0 ∧ i ∉ borsL rest ∧ p ∈ A i)) σ H [] vs' (frzL (subL env rest)) := l.view I (fun p z => ?_) (fun p hp z => ?_) (fun i hi p hp z => ?_) hn
              · refine ⟨by rw [List.length_map, List.length_map, List.length_cons, List.length_cons, lv.length], fun i d e => ?_, fun i h => ?_, fun i j p hij hp => ?_, fun i p hp z => ?_, fun p z => ?_⟩
                · cases i with
                  | zero =>
                    simp at e
                    subst e
                    refine ⟨nb0, v0, by simp, (o0.weak fun p z => ?_).slots nb0 _⟩
                    rcases sc p z with z | z | ⟨i, _, _, z⟩
                    · exact .inl (.inl z)
                    · exact .inr ⟨i0, z⟩
                    · exact .inr ⟨i, z⟩
                  | succ i =>
                    rw [List.map_cons, List.getElem?_cons_succ, List.getElem?_map] at e
                    obtain ⟨d', h1, h2⟩ := Option.map_eq_some_iff.mp e
                    cases h2
                    obtain ⟨v, B', h3, h4, h5⟩ := lv.get h1
                    have hB' : B' = [] := by
                      cases B' with
                      | nil => rfl
                      | cons p _ => cases h5 p List.mem_cons_self
                    rw [hB'] at h4
                    have nd := noBorL_get (plainL_noBor _ (plainL_frz _ hn)) h1
                    rw [setA_ne (Nat.succ_ne_zero i)]
                    exact ⟨nd, v, by rw [List.map_cons, List.getElem?_cons_succ, List.getElem?_map, h3]; rfl, h4.slots nd _⟩
                · cases i with
                  | zero => exact absurd rfl (h d0)
                  | succ i => rw [setA_ne (Nat.succ_ne_zero i)]
                · by_cases hj : i = 0
                  · subst hj; rw [setA_ne (Ne.symm hij)]; simp
                  · rw [setA_ne hj] at hp; cases hp
                · by_cases hj : i = 0
                  · subst hj
                    rw [setA_same] at hp
                    rcases z with z | ⟨j, hj, _, z⟩
                    · exact I.sep i0 p hp (.inl z)
                    · exact I.dis i0 j p (Ne.symm hj) hp z
                  · rw [setA_ne hj] at hp; cases hp
                · rcases z with z | ⟨i, _, _, z⟩
                  · exact I.tt p (.inl z)
                  · exact I.there p (.inr ⟨i, z⟩)
              · rcases sc p z with z | z | ⟨i, _, _, z⟩
                · exact .inl (.inl z)
                · exact .inr ⟨i0, z⟩
                · exact .inr ⟨i, z⟩
              · have hp' : p ∈ [] ++ B2 := hp
                rcases sc p z with z | z | ⟨i, _, _, z⟩
                · exact hB p hp' z
                · exact I.sep i0 p z (.inr hp')
                · exact I.sep i p z (.inr hp')
              · rcases sc p z with z | z | ⟨j, _, hj, z⟩
                · exact I.sep i p hp (.inl z)
                · exact I.dis i i0 p (fun q => hi0' (q ▸ hi)) hp z
                · exact I.dis i j p (fun q => hj (q ▸ hi)) hp z
        · -- what the callee leaves
          have hv0 : ∃ ws, vs = v0 :: ws := by
            cases o with
            | cons o1 l nn =>
              cases o1 with
              | bor s1 => rw [s0] at s1; cases s1; exact ⟨_, rfl⟩
          obtain ⟨ws, rfl⟩ := hv0
          -- the thing that came back, the others as they are in a given environment
          have fin : ∀ (envs : Env) (As : Nat → List Addr) (out : Option D) (outs : List (Option D)) (H' : Hp) (A' : Nat → List Addr) (B' : List Addr), EnvOk X.K X.mg T envs σ H As → envs[i0]? = some (some d0) → As i0 = A i0 → (∀ j p, p ∈ As j → p ∈ A j) →
              Moved (setA (fun _ => []) 0 (A i0)) A' B' H H' → EnvOk X.K X.mg (TB (fun p => T p ∨ ∃ i, i ≠ i0 ∧ i ∉ borsL rest ∧ p ∈ A i) B') (out :: outs) ((v0 :: ws).map some) H' A' → (∀ p ∈ B', H' p ≠ none) →
              (∀ p j, j ≠ i0 → j ∈ borsL rest → p ∈ As j → match out with | some d => noLst d = true | none => True) →
              EnvOk X.K X.mg (TB T B') (envs.set i0 out) σ H' (setA As i0 (A' 0)) ∧ Moved A (setA As i0 (A' 0)) B' H H' := by
            intro envs As out outs H' A' B' J eJ eA sA m J' tB' hsafe
            have kp : ∀ b o, H b = some o → b ∉ A i0 → H' b = some o := fun b o e hb => m.keep b o e fun i z => by
              by_cases hi : i = 0
              · subst hi; rw [setA_same] at z; exact hb z
              · rw [setA_ne hi] at z; cases z
            have nw : ∀ p, (p ∈ B' ∨ ∃ i, p ∈ A' i) → p ∈ A i0 ∨ H p = none := fun p z => by
              rcases m.new p z with ⟨i, z⟩ | z
              · by_cases hi : i = 0
                · subst hi; rw [setA_same] at z; exact .inl z
                · rw [setA_ne hi] at z; cases z
              · exact .inr z
            have I1 := J.take eJ
            rw [eA] at I1
            have I2 : EnvOk X.K X.mg (TB T (B' ++ A' 0)) (envs.set i0 none) σ H' (setA As i0 []) := I1.beside (fun p hp z => I.sep i0 p hp (.inl z)) kp (fun p hp => nw p ((List.mem_append.mp hp).imp id fun z => ⟨0, z⟩)) fun p hp => (List.mem_append.mp hp).elim (tB' p) fun z => J'.there p (.inr ⟨0, z⟩)
            have I3 : EnvOk X.K X.mg (TB (TB T B') (A' 0)) (envs.set i0 none) σ H' (setA As i0 []) := I2.weak fun p z => by
              rcases z with (z | z) | z
              · exact .inl z
              · exact .inr (List.mem_append_left _ z)
              · exact .inr (List.mem_append_right _ z)
            refine ⟨I3.swap (List.getElem?_eq_some_iff.mp eJ).1 s0 (fun p hp z => J'.sep 0 p hp (z.elim (fun z => .inl (.inl z)) .inr)) ?_, ⟨fun b u e nb => kp b u e (nb i0), fun p z => ?_⟩⟩
            · cases out with
              | none => exact J'.emp 0 fun d e => by simp at e
              | some d =>
                obtain ⟨nd, u, su, od⟩ := J'.slot 0 d (by simp)
                have eu : u = v0 := by simpa using su.symm
                subst eu
                refine ⟨nd, ?_⟩
                have od := od.slots nd σ
                by_cases hne : ∃ p j, j ≠ i0 ∧ j ∈ borsL rest ∧ p ∈ As j
                · obtain ⟨p, j, h1, h2, h3⟩ := hne
                  refine (od.apart (Sq := fun p => ∃ j, p ∈ setA As i0 [] j) (fun q ⟨j, z⟩ => I3.kind z) (hsafe p j h1 h2 h3)).weak fun p z => ?_
                  rcases z with (z | z) | ⟨j, z⟩
                  · exact .inl (.inl (.inl (.inl z)))
                  · exact .inl (.inl (.inr z))
                  · by_cases hj : j = i0
                    · subst hj; rw [setA_same] at z; exact .inl (.inr ⟨0, z⟩)
                    · rw [setA_ne hj] at z; exact .inr ⟨j, by rw [setA_ne hj]; exact z⟩
                · refine od.weak fun p z => ?_
                  rcases z with (z | z) | ⟨j, z⟩
                  · exact .inl (.inl (.inl z))
                  · exact .inl (.inr z)
                  · by_cases hj : j = i0
                    · subst hj; rw [setA_same] at z; exact .inr ⟨0, z⟩
                    · rw [setA_ne hj] at z
                      exact .inl (.inl (.inr ⟨j, hj, fun q => hne ⟨p, j, hj, q, z⟩, sA j p z⟩))
            · rcases z with z | ⟨j, z⟩
              · exact (nw p (.inl z)).imp (fun z => ⟨i0, z⟩) id
              · by_cases hj : j = i0
                · subst hj; rw [setA_same] at z; exact (nw p (.inr ⟨0, z⟩)).imp (fun z => ⟨j, z⟩) id
                · rw [setA_ne hj] at z; exact .inl ⟨j, sA j p z⟩
          obtain ⟨Af, If, sf, tf, uf⟩ := I.drop.frzAll (borsL rest)
          cases eF : F (d0 :: frzL (subL env rest)) with
          | bad => rw [eF] at h; exact h
          | err x outs =>
            rw [eF] at h
            cases outs with
            | nil => exact h.elim
            | cons out outs =>
              intro H' A' m J'
              obtain ⟨r1, r2⟩ := fin _ Af out outs H' A' [] If ((uf i0 hi0').1.trans e0) (uf i0 hi0').2 sf m (J'.weak tbn) (by simp) (fun p j _ h2 h3 => by rw [tf j h2] at h3; cases h3)
              exact h H' _ r2 (r1.weak fun p z => .inl z)
          | ok r outs =>
            rw [eF] at h
            cases outs with
            | nil => exact h.elim
            | cons out outs =>
              simp only at h
              intro v H' A' B' m J' w nr
              have tB' : ∀ p ∈ B', H' p ≠ none := fun p hp => w.there p hp
              unfold back at h
              generalize hs : ((borsL rest).isEmpty || (noLst r && safeO out)) = b at h
              cases b with
              | true =>
                rw [if_pos rfl] at h
                have hsafe : borsL rest ≠ [] → noLst r = true ∧ safeO out = true := fun hne => by
                  rcases Bool.or_eq_true_iff.mp hs with z | z
                  · exact absurd (List.isEmpty_iff.mp z) hne
                  · exact Bool.and_eq_true_iff.mp z
                obtain ⟨r1, r2⟩ := fin _ A out outs H' A' B' I.drop e0 rfl (fun _ _ z => z) m J' tB' (fun p j _ h2 _ => by
                  have := (hsafe fun q => by rw [q] at h2; cases h2).2
                  cases out with
                  | none => trivial
                  | some d => exact this)
                refine h v H' _ B' r2 r1 ?_
                have w1 := w.slots nr σ
                by_cases hne : borsL rest = []
                · refine w1.weak fun p z => ?_
                  rcases z with (z | z) | ⟨j, z⟩
                  · exact .inl (.inl (.inl z))
                  · exact .inl (.inr z)
                  · by_cases hj : j = i0
                    · subst hj; rw [setA_same] at z; exact .inr ⟨0, z⟩
                    · rw [setA_ne hj] at z; exact .inl (.inl (.inr ⟨j, hj, by rw [hne]; simp, z⟩))
                · refine (w1.apart (Sq := fun p => ∃ j, p ∈ setA A i0 (A' 0) j) (fun q ⟨j, z⟩ => r1.kind z) (hsafe hne).1).weak fun p z => ?_
                  rcases z with (z | z) | z
                  · exact .inl (.inl (.inl (.inl z)))
                  · exact .inl (.inl (.inr z))
                  · exact .inr z
              | false =>
                rw [if_neg Bool.false_ne_true] at h
                obtain ⟨r1, r2⟩ := fin _ Af out outs H' A' B' If ((uf i0 hi0').1.trans e0) (uf i0 hi0').2 sf m J' tB' (fun p j _ h2 h3 => by rw [tf j h2] at h3; cases h3)
                refine h v H' _ B' r2 r1 ((w.slots nr σ).weak fun p z => ?_)
                rcases z with (z | z) | ⟨j, z⟩
                · exact .inl (.inl (.inl z))
                · exact .inl (.inr z)
                · by_cases hj : j = i0
                  · subst hj; rw [setA_same] at z; exact .inr ⟨0, z⟩
                  · rw [setA_ne hj] at z
                    exact .inl (.inl (.inr ⟨j, hj, (fun q => by rw [tf j q] at z; cases z), sf j p z⟩))
      · exact h.elim
    · exact h.elim
  · exact h.elim
end
end Dn
/-! Dn13: a def by its body; calls in syntax; the law's end. -/
namespace Dn
open PySem PySem.Spec L2

def outsOf (n : Nat) (fx : Nat → Bool) (env : Env) : Env := (List.range n).map fun i => if fx i = true then (match env[i]? with | some (some d) => some d | _ => none) else none
/-- a def on data, by what its body denotes: m slots, n parameters -/
def fnD (m n : Nat) (fx : Nat → Bool) (g : Env → SOut) (ds : List D) : Out D := match g (ds.map some ++ List.replicate (m - n) none) with
  | .rt d env => .ok d (outsOf n fx env)
  | .nx env => .ok .non (outsOf n fx env)
  | .err x env => .err x (outsOf n fx env)
  | _ => .bad
section
variable {K : PySem.W.Frag} {mg : Str → Option Value} {T : Addr → Prop} {env env' : Env} {σ σ' : St} {H H' : Hp} {A A' : Nat → List Addr} {B : List Addr} {vs : List V} {ds : List D}
theorem EnvOk.entry (I : EnvOk K mg T (ds.map some) (vs.map some) H A) (j : Nat) : EnvOk K mg T (ds.map some ++ List.replicate j none) (vs.map some ++ List.replicate j none) H A := by
  have hl : ds.length = vs.length := by have := I.len; rw [List.length_map, List.length_map] at this; exact this
  have hi : ∀ (i : Nat) d, (ds.map some ++ List.replicate j none)[i]? = some (some d) → (ds.map some)[i]? = some (some d) := fun i d e => by
    by_cases h : i < (ds.map some).length
    · rw [List.getElem?_append_left h] at e; exact e
    · rw [List.getElem?_append_right (by omega), List.getElem?_replicate] at e
      split at e <;> cases e
  refine ⟨by simp [hl], fun i d e => ?_, fun i h => ?_, I.dis, I.sep, I.tt⟩
  · obtain ⟨n, v, s, o⟩ := I.slot i d (hi i d e)
    exact ⟨n, v, by rw [List.getElem?_append_left (List.getElem?_eq_some_iff.mp s).1]; exact s, o.slots n _⟩
  · refine I.emp i fun d e => h d ?_
    rw [List.getElem?_append_left (List.getElem?_eq_some_iff.mp e).1]; exact e
/-- what the parameters hold at the end -/
theorem EnvOk.outs {n : Nat} {fx : Nat → Bool} (I : EnvOk K mg T env σ H A) (hn : vs.length = n) (hf : ∀ i, i < n → fx i = true → σ[i]? = (vs.map some)[i]?) : ∃ A', EnvOk K mg T (outsOf n fx env) (vs.map some) H A' ∧ ∀ i p, p ∈ A' i → p ∈ A i := by
  have ho : ∀ (i : Nat) d, (outsOf n fx env)[i]? = some (some d) → i < n ∧ fx i = true ∧ env[i]? = some (some d) := fun i d e => by
    unfold outsOf at e
    rw [List.getElem?_map] at e
    obtain ⟨k, h1, h2⟩ := Option.map_eq_some_iff.mp e
    have hi : i < n := by have := (List.getElem?_eq_some_iff.mp h1).1; rw [List.length_range] at this; exact this
    rw [List.getElem?_range hi] at h1
    cases h1
    split at h2
    · rename_i hfx
      split at h2
      · rename_i d' e'
        cases h2
        exact ⟨hi, hfx, e'⟩
      · cases h2
    · cases h2
  have ss : ∀ p, SA (fun i => if i < n ∧ fx i = true then A i else []) T p → SA A T p := fun p z => by
    rcases z with z | ⟨i, z⟩
    · exact .inl z
    · by_cases h : i < n ∧ fx i = true
      · simp only [if_pos h] at z; exact .inr ⟨i, z⟩
      · simp only [if_neg h] at z; cases z
  have sub : ∀ i p, p ∈ (fun i => if i < n ∧ fx i = true then A i else []) i → p ∈ A i := fun i p z => by
    by_cases h : i < n ∧ fx i = true
    · simp only [if_pos h] at z; exact z
    · simp only [if_neg h] at z; cases z
  refine ⟨fun i => if i < n ∧ fx i = true then A i else [], ⟨?_, fun i d e => ?_, fun i h => ?_, fun i j p hij hp z => I.dis i j p hij (sub i p hp) (sub j p z), fun i p hp => I.sep i p (sub i p hp), I.tt⟩, sub⟩
  · unfold outsOf; rw [List.length_map, List.length_range, List.length_map, hn]
  · obtain ⟨h1, h2, h3⟩ := ho i d e
    obtain ⟨nb, v, s, o⟩ := I.slot i d h3
    refine ⟨nb, v, by rw [← hf i h1 h2]; exact s, ?_⟩
    simp only [if_pos (show i < n ∧ fx i = true from ⟨h1, h2⟩)]
    exact (o.weak ss).slots nb _
  · by_cases hc : i < n ∧ fx i = true
    · simp only [if_pos hc]
      refine I.emp i fun d h3 => h d ?_
      unfold outsOf
      rw [List.getElem?_map, List.getElem?_range hc.1]
      simp [hc.2, h3]
    · simp only [if_neg hc]
end

section
variable {P : Program} {w : World} {K : PySem.W.Frag} {mg : Str → Option Value} {base : Heap}
/-- what a def's body wishes of exceptions -/
def wDef (E : XK) : WX := fun c d _ H => E c d H
/-- the context of a def's body -/
abbrev cxD (P : Program) (w : World) (K : PySem.W.Frag) (mg : Str → Option Value) (base : Heap) (N : List Str) (qual : Str) (scope : Scope) (f : Addr) (cdv : Value) (A : Around) (outer : List PySem.Env) (s : Shared) (H : Hp) (E : XK) : Cx := cxOf (L2.CX P w) P w K mg base N qual scope f cdv A outer s H E
theorem sit_def {N : List Str} {qual : Str} {scope : Scope} {f : Addr} {cdv : Value} {A : Around} {outer : List PySem.Env} {s : Shared} {H : Hp} {E : XK} {k : Nat} (hr : Room (k + 1) A) (hg : A.guards = some []) (nd : N.Nodup) : Sit (cxD P w K mg base N qual scope f cdv A outer s H E) (wDef E) k :=
  ⟨hr.deeper _, hg, rfl, nd, passes_of rfl, fun σ => passAt (takes_of rfl rfl rfl rfl) σ⟩
theorem fn_run {x qual : Str} {st : Stmt} {f : Addr} {fd : FuncData} {N ps : List Str} {k : Nat} {sp : Sp} {dvs : List V} (F : FunD K x qual (defArgs st) (defBody st) (defScope st) dvs [] f fd) (S : FnScope N ps (defScope st)) (len : ∀ vs H Q E, sp vs H Q E → vs.length = ps.length)
    (hb : ∀ cdv A outer s H vs Q E, Room (k + 1) A → A.guards = some [] → sp vs H Q E → ∃ t, PSs (cxD P w K mg base N qual (defScope st) f cdv A outer s H E) (defBody st) t ∧ t { nx := fun _ H' => Q .non H', rt := Q } (L2.start N vs) H) : FnG P w K mg base (k + 1) f fd ps sp := by
  obtain ⟨oc, od, dV, kV, doc, pm, an, cdv, ct, osl, rfl, lk, hcd, _, _⟩ := F.ex
  refine ⟨len, ?_⟩
  intro A outer s H ag us vs Q E hg hr e0 bnd rel hsp
  have lv := len _ _ _ _ hsp
  have inK : K.In s.heap := e0.mod.kin.keeps fun b o z => (e0.bs b o z).1
  have noLim : s.heap.NoLimit := e0.mod.nolimit.keeps fun b o z => (e0.bs b o z).1
  obtain ⟨t, ht, hq⟩ := hb cdv A outer s H vs Q E hr hg hsp
  apply codeAny_call_function hr.depth (inK _ _ lk) rfl S.co S.gen rfl (PySem.W.codeRec_of inK hcd)
  apply bnd
  apply wpAny_newFunctionEnv_cells S.kind
  · rintro ⟨n, u⟩ hy
    exact (S.par n (List.of_mem_zip hy).1).imp id fun z => ⟨z, PySem.W.cellsFrom_some _ _ _ (.inl z)⟩
  · rintro env' rfl s1 ic
    refine ⟨noLim.keeps ic.toInCall.keep, codeAny_func ?_⟩
    have J : Inv (cxD P w K mg base N qual (defScope st) f cdv A outer s H E) [] (L2.start N vs) H s1 := inv_start S hr.hd e0 lv rel ic
    refine wpAny_mono (ht.run [] s1 _ H _ J hq) ?_ fun _ _ z => z
    intro fl s' z
    cases fl with
    | ret u =>
      obtain ⟨v, σ', H', I', r', q'⟩ := z
      exact ⟨v, H', I'.os, I'.bare, I'.base, I'.hok, r', q'⟩
    | next =>
      obtain ⟨σ', H', I', q'⟩ := z
      exact ⟨.non, H', I'.os, I'.bare, I'.base, I'.hok, rfl, q'⟩
    | brk => obtain ⟨_, _, _, z⟩ := z; exact z.elim
    | cont => obtain ⟨_, _, _, z⟩ := z; exact z.elim
/-- THE RULE: a def keeps its data function's contract -/
theorem fnG {x qual : Str} {st : Stmt} {f : Addr} {fd : FuncData} {N ps : List Str} {k m n : Nat} {fx : Nat → Bool} {g : Env → SOut} {dvs : List V} (F : FunD K x qual (defArgs st) (defBody st) (defScope st) dvs [] f fd) (S : FnScope N ps (defScope st)) (hm : N.length = m) (hn : ps.length = n)
    (hb : ∀ cdv A outer s H E, Sit (cxD P w K mg base N qual (defScope st) f cdv A outer s H E) (wDef E) k → DSs (cxD P w K mg base N qual (defScope st) f cdv A outer s H E) (wDef E) fx (defBody st) g) : FnG P w K mg base (k + 1) f fd ps (spD K mg n (fnD m n fx g)) := by
  refine fn_run F S (fun vs H Q E z => z.1.trans hn.symm) ?_
  rintro cdv A outer s H vs Q E hr hg ⟨lv, T, ds, A0, I0, h⟩
  obtain ⟨t, ht, hs⟩ := hb cdv A outer s H E (sit_def hr hg S.nd)
  refine ⟨t, ht, ?_⟩
  have hst : L2.start N vs = vs.map some ++ List.replicate (m - n) none := by unfold L2.start; rw [hm, lv]
  rw [hst]
  have I := I0.entry (m - n)
  refine hs T _ _ H A0 _ I ?_
  have fixed : ∀ {σ' : St}, Fix fx (vs.map some ++ List.replicate (m - n) none) σ' → ∀ i, i < n → fx i = true → σ'[i]? = (vs.map some)[i]? := fun {σ'} fi i hi hf => by
    rw [fi.2 i hf, List.getElem?_append_left (by rw [List.length_map, lv]; exact hi)]
  unfold fnD at h
  cases e : g (ds.map some ++ List.replicate (m - n) none) with
  | nx env' =>
    rw [e] at h
    intro σ' H' A' mo I' fi
    obtain ⟨A2, I2, s2⟩ := I'.outs lv (fixed fi)
    exact h .non H' A2 [] ⟨mo.keep, fun p z => mo.new p (z.imp id fun ⟨i, z⟩ => ⟨i, s2 i p z⟩)⟩ (I2.weak tbn) .non rfl
  | rt d env' =>
    rw [e] at h
    intro v σ' H' A' B mo I' o nb fi
    obtain ⟨A2, I2, s2⟩ := I'.outs lv (fixed fi)
    exact h v H' A2 B ⟨mo.keep, fun p z => mo.new p (z.imp id fun ⟨i, z⟩ => ⟨i, s2 i p z⟩)⟩ I2 ((o.weak fun p z => z.imp id fun ⟨i, z⟩ => ⟨i, s2 i p z⟩).slots nb _) nb
  | err x env' =>
    rw [e] at h
    intro σ' H' A' mo I' fi
    obtain ⟨A2, I2, s2⟩ := I'.outs lv (fixed fi)
    exact h H' A2 ⟨mo.keep, fun p z => mo.new p (z.imp id fun ⟨i, z⟩ => ⟨i, s2 i p z⟩)⟩ I2
  | bk env' => rw [e] at h; exact h.elim
  | ct env' => rw [e] at h; exact h.elim
  | bad => rw [e] at h; exact h.elim
/-- another data function that says the same where the first says something -/
theorem FnG.as {f : Addr} {fd : FuncData} {ps : List Str} {k n : Nat} {F F' : List D → Out D} (h : FnG P w K mg base k f fd ps (spD K mg n F)) (e : ∀ ds, ds.length = n → F' ds ≠ .bad → F ds = F' ds) : FnG P w K mg base k f fd ps (spD K mg n F') :=
  h.imp fun vs H Q E ⟨l, T, ds, A, I, z⟩ => ⟨l, T, ds, A, I, by
    have hl : ds.length = n := by have := I.len; rw [List.length_map, List.length_map, l] at this; exact this
    have nb : F' ds ≠ .bad := fun q => by rw [q] at z; exact z
    rw [e ds hl nb]; exact z⟩
end
end Dn
/-! Dn14: statements and calls in syntax. -/
namespace Dn
open PySem PySem.Spec L2

/-! ### statements -/
section
variable {X : Cx} {W : WX} {fx : Nat → Bool} {st : Stmt} {rest : List Stmt} {g h : Env → SOut} {e : Expr} {f : Env → Out D} {p : Env → Out Bool} {pos : Pos} {k : Nat}
theorem dss_nil : DSs X W fx [] dSkip := ⟨_, pss_nil, ss_skip⟩
theorem dss_cons (a : DS X W fx st g) (b : DSs X W fx rest h) : DSs X W fx (st :: rest) (dSeq g h) := let ⟨_, x, y⟩ := a; let ⟨_, z, w⟩ := b; ⟨_, pss_cons x z, ss_seq y w⟩
theorem dss_one (a : DS X W fx st g) : DSs X W fx [st] g := let ⟨_, x, y⟩ := a; ⟨_, pss_one x, y⟩
theorem ds_pass : DS X W fx (.Pass pos) dSkip := ⟨_, ps_pass, ss_skip⟩
theorem ds_doc {x j p' pos'} : DS X W fx (.Expr (.Constant (.str x) j p') pos') dSkip := ⟨_, ps_doc, ss_skip⟩
theorem ds_set (i : Nat) {x : Str} {pos' : Pos} (Z : Sit X W k) (he : DE X W e f) (hi : X.N[i]? = some x := by rfl) (hx : Loc X.env.scope x := by first | exact Or.inl rfl | exact Or.inr rfl) (hfx : fx i = false := by rfl) (hs : swapsWith e (some (.Name x pos')) pos.line X.env = pure false := by rfl)
    (hf : X.fn x = true ∨ X.env.scope.names.lookup x = some .local := by first | exact .inl rfl | exact .inr rfl) : DS X W fx (.Assign [.Name x pos'] e pos) (dSet i f) := let ⟨_, a, b⟩ := he; ⟨_, ps_set Z.nd hi hx a hs hf, ss_set hfx b⟩
theorem ds_expr (he : DE X W e f) (hs : swapsWith e none pos.line X.env = pure false := by rfl) : DS X W fx (.Expr e pos) (dExpr f) := let ⟨_, a, b⟩ := he; ⟨_, ps_expr a hs, ss_expr b⟩
theorem ds_ret (he : DE X W e f) : DS X W fx (.Return (some e) pos) (dRet f) := let ⟨_, a, b⟩ := he; ⟨_, ps_ret a, ss_ret b⟩
theorem ds_retN : DS X W fx (.Return none pos) dRetN := ⟨_, ps_retN, ss_retN⟩
theorem ds_if {a b : List Stmt} (hc : DT X W e p) (ha : DSs X W fx a g) (hb : DSs X W fx b h) : DS X W fx (.If e a b pos) (dIfS p g h) := let ⟨_, x, y⟩ := hc; let ⟨_, z, w⟩ := ha; let ⟨_, z', w'⟩ := hb; ⟨_, ps_if x z z', ss_if y w w'⟩
theorem ds_for {iter tg : Expr} {body : List Stmt} {fi : Env → Out (List D)} {q : D → Env → Option Env} (Z : Sit X W k) (hi : DI X W tg iter fi) (hg : DG X fx tg q) (hb : DSs X W fx body g) (hs : ∀ x, foldedSetIterable iter X.env x = pure x := by intro _; rfl) : DS X W fx (.For tg iter body [] pos) (dFor fi q g) :=
  let ⟨_, x, y⟩ := hi; let ⟨_, z, w⟩ := hg; let ⟨_, z', w'⟩ := hb; ⟨_, ps_for Z.own Z.calm x z z' hs, ss_for y w w'⟩
/-- code that is never come to -/
def dBad : Env → SOut := fun _ => .bad
theorem ds_never : DS X W fx st dBad := ⟨_, ps_never, fun _ _ _ _ _ _ _ h => h.elim⟩
theorem dss_never : DSs X W fx rest dBad := ⟨_, pss_never, fun _ _ _ _ _ _ _ h => h.elim⟩
def dEbad : Env → Out D := fun _ => .bad
end
/-- target = value -/
def dAsg (f : Env → Out D) (q : D → Env → Option Env) : Env → SOut := fun env => liftE (f env) fun d env1 => match mv d env1 with
  | some (d', env2) => match q d' env2 with
    | some env3 => .nx env3
    | none => .bad
  | none => .bad
def liftL' (o : Out (List D)) (k : List D → Env → SOut) : SOut := match o with
  | .ok d env' => k d env'
  | .err x env' => .err x env'
  | .bad => .bad
def mvL : List D → Env → Option (List D × Env)
  | [], env => some ([], env)
  | d :: ds, env => match mv d env with
    | some (d', env1) => match mvL ds env1 with
      | some (ds', env2) => some (d' :: ds', env2)
      | none => none
    | none => none
/-- a, b = x, y, stored at once -/
def dPar (f : Env → Out (List D)) (q : List D → Env → Option Env) : Env → SOut := fun env => liftL' (f env) fun ds env1 => match mvL ds env1 with
  | some (ds', env2) => match q ds' env2 with
    | some env3 => .nx env3
    | none => .bad
  | none => .bad
section
variable {K : PySem.W.Frag} {mg : Str → Option Value}
theorem mvL_ok : ∀ {ds : List D} {T : Addr → Prop} {env : Env} {σ : St} {H : Hp} {A : Nat → List Addr} {B : List Addr} {vs : List V} {ds' : List D} {env' : Env}, EnvOk K mg T env σ H A → OwL K mg (SA A T) σ H B vs ds → mvL ds env = some (ds', env') →
    ∃ A', EnvOk K mg T env' σ H A' ∧ OwL K mg (SA A' T) σ H B vs ds' ∧ noBorL ds' = true ∧ ∀ i p, p ∈ A' i → p ∈ A i
  | [], T, env, σ, H, A, B, vs, ds', env', I, o, h => by
    cases h
    cases o
    exact ⟨A, I, .nil, rfl, fun _ _ z => z⟩
  | d :: ds, T, env, σ, H, A, B, vs, ds', env', I, o, h => by
    unfold mvL at h
    split at h
    · rename_i d' env1 e1
      split at h
      · rename_i ds'' env2 e2
        cases h
        cases o with
        | cons a b nn =>
          obtain ⟨A1, I1, o1, n1, s1⟩ := mv_ok I a e1
          obtain ⟨A2, I2, o2, n2, s2⟩ := mvL_ok I1 (b.weak fun p z => z.imp id fun ⟨i, z⟩ => ⟨i, s1 i p z⟩) e2
          exact ⟨A2, I2, .cons (o1.weak fun p z => z.imp id fun ⟨i, z⟩ => ⟨i, s2 i p z⟩) o2 nn, by simp [noBorL, n1, n2], fun i p z => s1 i p (s2 i p z)⟩
      · cases h
    · cases h
end
section
variable {X : Cx} {W : WX} {fx : Nat → Bool} {f : Env → Out D} {k : Nat}
theorem ss_asg {te : TE} {g : TG} {q : D → Env → Option Env} (hf : SE X W te f) (hg : SG X fx g q) : SS X W fx (tAsg te g) (dAsg f q) := fun T env σ H A N I h => by
  refine hf T env σ H A _ I (h.lift fun d env1 e w v H1 A1 B1 m1 I1 o1 => ?_)
  cases em : mv d env1 with
  | none => rw [em] at w; exact w.elim
  | some z =>
    obtain ⟨d', env2⟩ := z
    rw [em] at w
    obtain ⟨A2, I2, o2, n2, s2⟩ := mv_ok I1 o1 em
    simp only at w
    cases eq : q d' env2 with
    | none => rw [eq] at w; exact w.elim
    | some env3 =>
      rw [eq] at w
      refine hg T env2 σ H1 A2 B1 v d' env3 _ I2 o2 n2 (Moved.sepB I m1) eq fun σ' A' I' s' f' => w σ' H1 A' ⟨m1.keep, fun p z => ?_⟩ I' f'
      rcases z with z | ⟨i, z⟩
      · cases z
      · rcases s' i p z with z | ⟨j, z⟩
        · exact m1.new p (.inl z)
        · exact m1.new p (.inr ⟨j, s2 j p z⟩)
theorem ss_par {ta : TA} {gs : TGs} {fs : Env → Out (List D)} {q : List D → Env → Option Env} (hf : SL X W ta fs) (hg : SGs X fx gs q) {R : Ends → St → List V → Hp → Prop} (hR : ∀ D σ vs H, gs vs σ H D.nx → R D σ vs H) : SS X W fx (fun D σ H => ta σ H (R D σ)) (dPar fs q) := fun T env σ H A N I h => by
  refine hf T env σ H A _ I ?_
  unfold dPar at h
  cases e : fs env with
  | bad => rw [e] at h; exact h
  | err x env' => rw [e] at h; exact fun H' A' m e => h σ H' A' m e .refl
  | ok ds env1 =>
    rw [e] at h
    intro vs H1 A1 B1 m1 I1 o1
    have w := h
    unfold liftL' at w
    simp only at w
    cases em : mvL ds env1 with
    | none => rw [em] at w; exact w.elim
    | some z =>
      obtain ⟨ds', env2⟩ := z
      rw [em] at w
      obtain ⟨A2, I2, o2, n2, s2⟩ := mvL_ok I1 o1 em
      simp only at w
      cases eq : q ds' env2 with
      | none => rw [eq] at w; exact w.elim
      | some env3 =>
        rw [eq] at w
        refine hR _ _ _ _ (hg T env2 σ H1 A2 B1 vs ds' env3 _ I2 o2 n2 (Moved.sepB I m1) eq fun σ' A' I' s' f' => w σ' H1 A' ⟨m1.keep, fun p z => ?_⟩ I' f')
        rcases z with z | ⟨i, z⟩
        · cases z
        · rcases s' i p z with z | ⟨j, z⟩
          · exact m1.new p (.inl z)
          · exact m1.new p (.inr ⟨j, s2 j p z⟩)
theorem ds_asg {tg e : Expr} {pos : Pos} {q : D → Env → Option Env} (he : DE X W e f) (hg : DG X fx tg q) (hs : swapsWithSole [tg] e pos.line X.env = pure false := by rfl) (hw : swappedStores [tg] e X.env = pure none := by rfl)
    (h1 : (assignEach [tg] X.env).map (·.2) = [assign tg X.env] := by rfl) : DS X W fx (.Assign [tg] e pos) (dAsg f q) := let ⟨_, a, b⟩ := he; let ⟨_, c, d⟩ := hg; ⟨_, ps_asg a c hs hw h1, ss_asg b d⟩
theorem ds_par (i j : Nat) {x y : Str} {a b : Expr} {px py pt pos : Pos} {kt k2 pt2} {fs : Env → Out (List D)} (Z : Sit X W k) (ha : DA X W [a, b] fs) (hij : i ≠ j := by decide) (hi : X.N[i]? = some x := by rfl) (hj : X.N[j]? = some y := by rfl)
    (hx : X.env.scope.names.lookup x = some .local := by rfl) (hy : X.env.scope.names.lookup y = some .local := by rfl) (fi : fx i = false := by rfl) (fj : fx j = false := by rfl)
    (hw : swappedStores [.Tuple [.Name x px, .Name y py] kt pt] (.Tuple [a, b] k2 pt2) X.env = pure (some [x, y]) := by rfl)
    (hs : swapsWithSole [.Tuple [.Name x px, .Name y py] kt pt] (.Tuple [a, b] k2 pt2) pos.line X.env = pure false := by rfl) :
    DS X W fx (.Assign [.Tuple [.Name x px, .Name y py] kt pt] (.Tuple [a, b] k2 pt2) pos) (dPar fs (gsCons (gN i) (gsCons (gN j) gsNil))) := by
  obtain ⟨_, p, q⟩ := ha
  exact ⟨_, ps_par Z.calm Z.nd hi hj hij hx hy p hw hs, ss_par q (sgs_cons (sg_name fi) (sgs_cons (sg_name fj) sgs_nil)) fun D σ vs H ⟨v, r, e1, w, r', e2, e3, z⟩ => ⟨v, w, by rw [e1, e2, e3], z⟩⟩
theorem ds_par3 (i j l : Nat) {x y v : Str} {a b c : Expr} {px py pv pt pos : Pos} {kt k2 pt2} {fs : Env → Out (List D)} (Z : Sit X W k) (ha : DA X W [a, b, c] fs) (hij : i ≠ j := by decide) (hil : i ≠ l := by decide) (hjl : j ≠ l := by decide) (hi : X.N[i]? = some x := by rfl) (hj : X.N[j]? = some y := by rfl) (hl : X.N[l]? = some v := by rfl)
    (hx : X.env.scope.names.lookup x = some .local := by rfl) (hy : X.env.scope.names.lookup y = some .local := by rfl) (hv : X.env.scope.names.lookup v = some .local := by rfl) (fi : fx i = false := by rfl) (fj : fx j = false := by rfl) (fl : fx l = false := by rfl)
    (hw : swappedStores [.Tuple [.Name x px, .Name y py, .Name v pv] kt pt] (.Tuple [a, b, c] k2 pt2) X.env = pure (some [x, y, v]) := by rfl)
    (hs : swapsWithSole [.Tuple [.Name x px, .Name y py, .Name v pv] kt pt] (.Tuple [a, b, c] k2 pt2) pos.line X.env = pure false := by rfl) :
    DS X W fx (.Assign [.Tuple [.Name x px, .Name y py, .Name v pv] kt pt] (.Tuple [a, b, c] k2 pt2) pos) (dPar fs (gsCons (gN i) (gsCons (gN j) (gsCons (gN l) gsNil)))) := by
  obtain ⟨_, p, q⟩ := ha
  exact ⟨_, ps_par3 Z.calm Z.nd hi hj hl hij hil hjl hx hy hv p hw hs, ss_par q (sgs_cons (sg_name fi) (sgs_cons (sg_name fj) (sgs_cons (sg_name fl) sgs_nil))) fun D σ vs H ⟨v, r, e1, w, r', e2, u, r'', e3, e4, z⟩ => ⟨v, w, u, by rw [e1, e2, e3, e4], z⟩⟩
end
end Dn
/-! Dn15: calls of the module's defs. -/
namespace Dn
open PySem PySem.Spec L2

def dCall (F : List D → Out D) (fs : Env → Out (List D)) : Env → Out D := fun env => (fs env).bind fun ds env1 => callD F ds env1
/-- .. the first argument is handed over -/
def dCallM (F : List D → Out D) (fs : Env → Out (List D)) : Env → Out D := fun env => (fs env).bind fun ds env1 => callM F ds env1
def bareD : D → Bool
  | .bor _ => true
  | d => plain d
def pickL {α : Type} (p : List Nat) (xs : List α) : List α := p.filterMap fun i => xs[i]?
/-- .. by keywords, in another order -/
def dCallK (F : List D → Out D) (p : List Nat) (fs : Env → Out (List D)) : Env → Out D := fun env => (fs env).bind fun ds env1 => if ds.all bareD = true then callD F (pickL p ds) env1 else .bad
section
variable {K : PySem.W.Frag} {mg : Str → Option Value} {S : Addr → Prop} {σ : St} {H : Hp}
theorem Ow.bareB {B : List Addr} {v : V} {d : D} (o : Ow K mg S σ H B v d) (h : bareD d = true) : B = [] := by
  cases d with
  | bor i => cases o; rfl
  | _ => exact o.bare h
theorem OwL.bareB : ∀ {B : List Addr} {vs : List V} {ds : List D}, OwL K mg S σ H B vs ds → ds.all bareD = true → B = [] ∧ ∀ i : Nat, (∃ d v, ds[i]? = some d ∧ vs[i]? = some v ∧ Ow K mg S σ H [] v d) ∨ (ds[i]? = none ∧ vs[i]? = none)
  | _, _, _, .nil, _ => ⟨rfl, fun i => .inr ⟨rfl, rfl⟩⟩
  | _, _, _, .cons a b _, h => by
    rw [List.all_cons, Bool.and_eq_true] at h
    obtain ⟨e, k⟩ := b.bareB h.2
    subst e
    have e := a.bareB h.1
    subst e
    refine ⟨rfl, fun i => ?_⟩
    cases i with
    | zero => exact .inl ⟨_, _, rfl, rfl, a⟩
    | succ i => exact k i
theorem OwL.pick {B : List Addr} {vs : List V} {ds : List D} (o : OwL K mg S σ H B vs ds) (h : ds.all bareD = true) : ∀ p : List Nat, OwL K mg S σ H [] (pickL p vs) (pickL p ds)
  | [] => .nil
  | i :: p => by
    have ih := o.pick h p
    unfold pickL at ih ⊢
    rcases (o.bareB h).2 i with ⟨d, v, e1, e2, w⟩ | ⟨e1, e2⟩
    · rw [List.filterMap_cons_some e1, List.filterMap_cons_some e2]
      exact OwL.cons (A := []) (B := []) w ih (by simp)
    · rw [List.filterMap_cons_none e1, List.filterMap_cons_none e2]
      exact ih
end
section
variable {X : Cx} {W : WX} {n : Nat} {F : List D → Out D} {fs : Env → Out (List D)} {t : TA}
theorem WD.re1 {T : Addr → Prop} {A A1 : Nat → List Addr} {σ : St} {H H1 : Hp} {B1 : List Addr} {o : Out D} {Q : VK} (h : WD X W T A σ H o Q) (m : Moved A A1 B1 H H1) : WD X W T A1 σ H1 o Q := h.re0 (m.fewer fun p z => by cases z)
theorem se_call (hs : SL X W t fs) (hl : ∀ env ds env', fs env = .ok ds env' → ds.length = n) : SE X W (tCal W (spD X.K X.mg n F) [] t) (dCall F fs) := fun T env σ H A Q I h => by
  refine hs T env σ H A _ I ?_
  unfold dCall at h
  cases e : fs env with
  | bad => rw [e] at h; exact h
  | err x env' => rw [e] at h; exact h
  | ok ds env1 =>
    rw [e, Out.bind_ok] at h
    intro vs H1 A1 B1 m1 I1 o1
    rw [List.append_nil]
    exact call_ok (hl _ _ _ e) I1 (Moved.sepB I m1) o1 (h.re1 m1)
theorem se_callM (hs : SL X W t fs) (hl : ∀ env ds env', fs env = .ok ds env' → ds.length = n) : SE X W (tCal W (spD X.K X.mg n F) [] t) (dCallM F fs) := fun T env σ H A Q I h => by
  refine hs T env σ H A _ I ?_
  unfold dCallM at h
  cases e : fs env with
  | bad => rw [e] at h; exact h
  | err x env' => rw [e] at h; exact h
  | ok ds env1 =>
    rw [e, Out.bind_ok] at h
    intro vs H1 A1 B1 m1 I1 o1
    rw [List.append_nil]
    exact callM_ok (hl _ _ _ e) I1 (Moved.sepB I m1) o1 (h.re1 m1)
/-- the same reading, with the order of the parameters -/
def tCalP (W : WX) (sp : Sp) (p : List Nat) (m : Nat) (t : TA) : TE := fun σ H Q => t σ H fun vs H1 => vs.length = m ∧ sp (pickL p vs) H1 Q (WE W σ)
theorem se_callK {p : List Nat} {m : Nat} (hs : SL X W t fs) (hm : ∀ env ds env', fs env = .ok ds env' → ds.length = m) (hl : ∀ ds : List D, ds.length = m → (pickL p ds).length = n) : SE X W (tCalP W (spD X.K X.mg n F) p m t) (dCallK F p fs) := fun T env σ H A Q I h => by
  refine hs T env σ H A _ I ?_
  unfold dCallK at h
  cases e : fs env with
  | bad => rw [e] at h; exact h
  | err x env' => rw [e] at h; exact h
  | ok ds env1 =>
    rw [e, Out.bind_ok] at h
    intro vs H1 A1 B1 m1 I1 o1
    split at h
    · rename_i hb
      have eB := (o1.bareB hb).1
      subst eB
      exact ⟨o1.length.trans (hm _ _ _ e), call_ok (B := []) (hl _ (hm _ _ _ e)) I1 (by simp) (o1.pick hb p) (h.re1 m1)⟩
    · exact h.elim
end

/-! ### what is known of a def of the module -/
structure Cal (P : Program) (w : World) (K : PySem.W.Frag) (mg : Str → Option Value) (base : Heap) (k n : Nat) (x : Str) (st : Stmt) (dvs : List V) (ps : List Str) (F : List D → Out D) : Prop where
  ex : ∃ (f : Addr) (fd : FuncData), FnG P w K mg base k f fd ps (spD K mg n F) ∧ mg x = some (.ref f) ∧ FunD K x x (defArgs st) (defBody st) (defScope st) dvs [] f fd ∧ Binds K fd ps []
theorem Cal.mono {P : Program} {w : World} {K : PySem.W.Frag} {mg : Str → Option Value} {base : Heap} {k j n : Nat} {x : Str} {st : Stmt} {dvs : List V} {ps : List Str} {F : List D → Out D} (c : Cal P w K mg base k n x st dvs ps F) (h : k ≤ j) : Cal P w K mg base j n x st dvs ps F :=
  let ⟨f, fd, a, b, d, e⟩ := c.ex; ⟨f, fd, a.mono h, b, d, e⟩
section
variable {X : Cx} {W : WX} {j k n : Nat} {F : List D → Out D} {fs : Env → Out (List D)} {x : Str} {st : Stmt} {dvs : List V} {ps : List Str} {p pos : Pos} {e : Expr} {es : List Expr}
theorem de_call (Z : Sit X W j) (c : Cal X.prog X.w X.K X.mg X.base k n x st dvs ps F) (hg : Gl X x) (ha : DA X W (e :: es) fs) (hl : ∀ env ds env', fs env = .ok ds env' → ds.length = n) (hk : k ≤ j := by decide)
    (hdb : (x == ("__debug__" : Str)) = false := by decide) (he : starEach (e :: es) X.env = (false, eval e X.env) :: starEach es X.env := by rfl) (hpl : (backTo pos (starEach es X.env)).any (·.1) = false := by rfl) :
    DE X W (.Call (.Name x p) (e :: es) [] pos) (dCall F fs) := by
  obtain ⟨f, fd, G, hm, fn, b⟩ := c.ex
  obtain ⟨_, q, r⟩ := ha
  exact ⟨_, pe_cal Z (G.mono hk) hg hm fn.kp b .nil q hdb he hpl, se_call r hl⟩
theorem de_callM (Z : Sit X W j) (c : Cal X.prog X.w X.K X.mg X.base k n x st dvs ps F) (hg : Gl X x) (ha : DA X W (e :: es) fs) (hl : ∀ env ds env', fs env = .ok ds env' → ds.length = n) (hk : k ≤ j := by decide)
    (hdb : (x == ("__debug__" : Str)) = false := by decide) (he : starEach (e :: es) X.env = (false, eval e X.env) :: starEach es X.env := by rfl) (hpl : (backTo pos (starEach es X.env)).any (·.1) = false := by rfl) :
    DE X W (.Call (.Name x p) (e :: es) [] pos) (dCallM F fs) := by
  obtain ⟨f, fd, G, hm, fn, b⟩ := c.ex
  obtain ⟨_, q, r⟩ := ha
  exact ⟨_, pe_cal Z (G.mono hk) hg hm fn.kp b .nil q hdb he hpl, se_callM r hl⟩
theorem de_call0 (Z : Sit X W j) (c : Cal X.prog X.w X.K X.mg X.base k 0 x st dvs ps F) (hg : Gl X x) (hk : k ≤ j := by decide) (hdb : (x == ("__debug__" : Str)) = false := by decide) : DE X W (.Call (.Name x p) [] [] pos) (dCall F dNil) := by
  obtain ⟨f, fd, G, hm, fn, b⟩ := c.ex
  exact ⟨_, pe_cal0 Z (G.mono hk) hg hm fn.kp b .nil hdb, se_call sl_nil dnil_len⟩
/-- all by keywords: q, where each parameter stands among them -/
def DK (X : Cx) (W : WX) (kws : List Keyword) (fs : Env → Out (List D)) : Prop := ∃ t, PK X kws t ∧ SL X W t fs
theorem dk_nil : DK X W [] dNil := ⟨_, pk_nil, sl_nil⟩
theorem dk_cons {nm : Option Str} {kpos : Pos} {kws : List Keyword} {f : Env → Out D} (a : DE X W e f) (b : DK X W kws fs) : DK X W (⟨nm, e, kpos⟩ :: kws) (dCons f fs) := let ⟨_, x, y⟩ := a; let ⟨_, z, w⟩ := b; ⟨_, pk_cons x z, sl_cons y w⟩
theorem de_callK {kws : List Keyword} {ks : List Str} {q : List Nat} (Z : Sit X W j) (c : Cal X.prog X.w X.K X.mg X.base k n x st [] ps F) (hg : Gl X x) (ha : DK X W kws fs) (hl : ∀ env ds env', fs env = .ok ds env' → ds.length = ks.length)
    (hb : ∀ (kV doc pm : Value) (an : Option Addr) (cdv ct : Value) (ws : List Value), ws.length = ks.length → bindArgs (PySem.W.fnOf x x (defArgs st) (defBody st) (defScope st) .none kV doc pm an cdv ct) ⟨[], ks.zip ws⟩ = pure (ps.zip (pickL q ws)))
    (hq : ∀ ds : List D, ds.length = ks.length → (pickL q ds).length = n) (hk : k ≤ j := by decide)
    (hall : (backToKw pos (keywordEach kws X.env)).all (·.1.isSome) = true := by rfl) (hks : (backToKw pos (keywordEach kws X.env)).filterMap (·.1) = ks := by rfl)
    (hdb : (x == ("__debug__" : Str)) = false := by decide) (hpl : ((backTo pos (starEach [] X.env)).any (·.1) || (backToKw pos (keywordEach kws X.env)).any (·.1.isNone)) = false := by rfl) :
    DE X W (.Call (.Name x p) [] kws pos) (dCallK F q fs) := by
  obtain ⟨f, fd, G, hm, fn, b⟩ := c.ex
  obtain ⟨t, u, r⟩ := ha
  refine ⟨tCalP W (spD X.K X.mg n F) q ks.length t, ⟨fun pins s σ H Q I h => ?_⟩, se_callK r hl hq⟩
  refine wpAny_Call_Name_kw (ld_glob I hg hm ?_ hdb)
  refine PySem.W.callWith_KW0 (h₀ := X.base) I.ok.mod.kin fn.kp hall (thn (u.run pos pins s σ H _ I h) fun ws s1 ⟨vs, H1, I1, r1, lv, q1⟩ => ⟨I1.kIn, ?_⟩) hpl
  rw [hks]
  have rp : ∀ q : List Nat, Vals (pickL q vs) (pickL q ws) := fun q => by
    have gt : ∀ {vs : List V} {ws : List Value}, Vals vs ws → ∀ i : Nat, (∃ v w, vs[i]? = some v ∧ ws[i]? = some w ∧ RelV v w) ∨ (vs[i]? = none ∧ ws[i]? = none) := by
      intro vs ws r
      induction r with
      | nil => exact fun i => .inr ⟨rfl, rfl⟩
      | cons a _ ih =>
        intro i
        cases i with
        | zero => exact .inl ⟨_, _, rfl, rfl, a⟩
        | succ i => exact ih i
    induction q with
    | nil => exact .nil
    | cons i q ih =>
      unfold pickL at ih ⊢
      rcases gt r1 i with ⟨v, w, e1, e2, rw'⟩ | ⟨e1, e2⟩
      · rw [List.filterMap_cons_some e1, List.filterMap_cons_some e2]; exact .cons rw' ih
      · rw [List.filterMap_cons_none e1, List.filterMap_cons_none e2]; exact ih
  have lw : ws.length = ks.length := r1.length.symm.trans lv
  refine runs Z (G.mono hk) (us := []) (ws := pickL q ws) I1 (fun _ => ?_) (rp q) q1
  obtain ⟨oc, od, dV, kV, doc, pm, an, cdv, ct, osl, rfl, lk, hcd, hD, hK⟩ := fn.ex
  rcases hD with ⟨_, rfl⟩ | ⟨z, _⟩
  · exact .of_eq (hb kV doc pm an cdv ct ws lw)
  · exact absurd rfl z
end
end Dn
/-! Dn16: len(set(..)) of a tuple of texts, however many. -/
namespace Dn
open PySem PySem.Spec L2

/-- the different ones, in the order met -/
def difs (xs : List Str) : List Str := xs.foldl PyProof.Rows.step_dedup []
theorem difs_snoc (xs : List Str) (x : Str) : difs (xs ++ [x]) = PyProof.Rows.step_dedup (difs xs) x := by
  unfold difs
  rw [List.foldl_append]
  rfl
theorem difs_len : ∀ xs : List Str, (difs xs).length ≤ xs.length := fun xs => by
  have := PyProof.Rows.foldl_step_dedup_length_le [] xs
  unfold difs
  simpa using this
theorem dedup_has (l : List Str) (x k : Str) : (l.any (· == k) || decide (k = x)) = (PyProof.Rows.step_dedup l x).any (· == k) ∧ (if l.any (· == x) = true then l.length else l.length + 1) = (PyProof.Rows.step_dedup l x).length := by
  unfold PyProof.Rows.step_dedup
  by_cases h : l.any (· == x) = true
  · simp only [h, if_true, and_true]
    by_cases e : k = x
    · subst e
      simp [h]
    · simp [e]
  · simp only [h, if_neg, Bool.false_eq_true, not_false_eq_true]
    refine ⟨?_, by simp⟩
    rw [List.any_append]
    by_cases e : k = x
    · subst e
      simp
    · have : (x == k) = false := beq_eq_false_iff_ne.mpr (Ne.symm e)
      simp [e, this]
section
variable {prog : Program} {w : World} {A : Around} {R : Result → Shared → Prop} {I S : Addr} {fp wr : List Addr} {G : Array GenState → Array GenState → Prop} {n : Nat} {P : Nat → Value → Prop} {St : Nat → Shared → Prop}
theorem fill_set (W : PySem.WalksS prog w A.in1 I fp wr G n P St) (hS : S ∉ fp) (xs : List Str) (hn : xs.length = n) (hb : n + 1 < scanBound) (hv : ∀ i v, P i v → ∃ x t, xs[i]? = some x ∧ v = .str x t) : ∀ (m i : Nat) (s : Shared), i + m = n → St i s →
      s.heap.SetOf (PySem.strKind prog w) S (fun k => (difs (xs.take i)).any (· == k)) (difs (xs.take i)).length →
      (∀ s', PySem.Moved (S :: wr) G s s' → s'.heap.SetOf (PySem.strKind prog w) S (fun k => (difs xs).any (· == k)) (difs xs).length → R (.ok (.ret .none)) s') → codeAny (model prog w) A (.builtin "set.update.loop" ⟨[.ref S, .ref I], []⟩) R s := by
  have out : S ∉ wr := fun h => hS (W.sub _ h)
  have inc : ∀ b ∈ wr, b ∈ S :: wr := fun b h => List.mem_cons_of_mem _ h
  have still : ∀ {s s' : Shared} {f : Str → Bool} {c : Nat}, PySem.Moved wr G s s' → s.heap.SetOf (PySem.strKind prog w) S f c → s'.heap.SetOf (PySem.strKind prog w) S f c := fun m ⟨o, a, b, t, e, r⟩ => ⟨o, a, b, t, m.heap S _ out e, r⟩
  intro m
  induction m with
  | zero =>
    intro i s e st h q
    have ei : i = n := e
    rw [ei] at st h
    rw [← hn, List.take_length] at h
    apply codeAny_builtin PyProof.Rows.F.entry_set_update_loop
    rw [Around.under_plainId PyProof.Rows.F.plain_set_update_loop _]
    show wpAny _ _ (pyNext _ >>= _) _ _ _
    exact wpAny_bind (W.done s _ _ st fun s' mv => wpAny_pure (q s' (mv.mono inc) (still mv h)))
  | succ m ih =>
    intro i s e st h q
    apply codeAny_builtin PyProof.Rows.F.entry_set_update_loop
    rw [Around.under_plainId PyProof.Rows.F.plain_set_update_loop _]
    show wpAny _ _ (pyNext _ >>= _) _ _ _
    refine wpAny_bind (W.item i s _ _ (by omega) st fun v s1 hp st1 mv => ?_)
    obtain ⟨x, t, ex, rfl⟩ := hv i v hp
    have h1 := still mv h
    have tk : xs.take (i + 1) = xs.take i ++ [x] := by
      rw [List.take_add_one, ex]
      rfl
    show wpAny _ _ (holding _ (setAdd S _) >>= _) _ _ _
    unfold setAdd
    refine wpAny_bind (wpAny_holding (wpAny_holding (wpAny_bind ((PySem.strKind prog w).pyHash (k := x) (strKind_is _ _ _ _) ?_))))
    have lt : (difs (xs.take i)).length + 1 < scanBound := by
      have := difs_len (xs.take i)
      rw [List.length_take] at this
      omega
    refine wpAny_setAddHashed_of (s := { s1 with toks := s1.toks + 1 }) (strKind_is _ _ _ _) rfl h1 lt fun hp2 sb s2 => wpAny_pure ⟨plainId_quiet PyProof.Rows.F.plain_set_update_loop _, ?_⟩
    have ne : ∀ b ∈ fp, b ≠ S := fun b hb z => hS (z ▸ hb)
    refine ih (i + 1) _ (by omega) (W.frame _ s1 _ _ st1 (Nat.le_succ _) fun b hb o eo => by rw [sb.2 b (ne b hb)]; exact eo) ?_ fun s3 mv3 s4 => q s3 (PySem.Moved.trans W.gtrans ((mv.mono inc).then_heap (Nat.le_succ _) fun b o hb eo => by rw [sb.2 b fun z => hb (z ▸ List.mem_cons_self)]; exact eo) mv3) s4
    rw [tk, difs_snoc]
    exact PyProof.Rows.SetOf_congr s2 (fun k => (dedup_has _ x k).1) (dedup_has _ x x).2
end
section
open PyProof.Rows
variable {prog : Program} {w : World} {A : Around} {E : Value → Shared → Prop} {s : Shared}
/-- a new, empty set -/
abbrev set0 (led : Bool) : Obj := { cls := .type "set", dict := none, data := .set #[] 0 (.fresh 0 0 led) }
theorem strs_get : ∀ {us : List Value} {xs : List Str}, StrsAre us xs → ∀ (i : Nat) (v : Value), us[i]? = some v → ∃ x t, xs[i]? = some x ∧ v = .str x t
  | _, _, .cons x t r, 0, v, h => ⟨x, t, rfl, by simpa using h.symm⟩
  | _, _, .cons x t r, i + 1, v, h => strs_get r i v h
  | _, _, .nil, i, v, h => by simp at h
set_option maxHeartbeats 3200000 in
theorem set_of_tup {l : Addr} {items : Array Value} {xs : List Str} {Q : Value → Shared → Prop} (hh : A.handled = none) (hl : s.heap.IsTuple l items) (hi : StrsAre items.toList xs) (hb : xs.length + 1 < scanBound)
    (q : ∀ (h' : Heap) (tk : Nat), h'.SetOf (PySem.strKind prog w) s.heap.objs.size (fun k => (difs xs).any (· == k)) (difs xs).length → (∀ b o, b < s.heap.objs.size → s.heap.get? b = some o → h'.get? b = some o) →
      Q (.ref s.heap.objs.size) { s with heap := h', toks := tk }) : wpAny (model prog w) A (call (.type "set") [.ref l]) Q E s := by
  have C := PySem.F.called_set
  obtain ⟨c, tl, r0⟩ := C.mro
  have r1 := C.made; have r2 := C.sub; have r3 := C.notType; have r4 := C.canCreate; have r5 := PySem.F.typeCall_set_1 (.ref l)
  apply wpAny_call; apply codeAny_of_tree
  show wpAny _ _ (callAny (.type "set") _) _ _ _
  refine wpAny_pure ⟨Code.quiet_builtin _ (by decide +kernel), codeAny_builtin PySem.F.entry_type_call ?_⟩
  rw [Around.under_plain (weight_type_call_type "set" [.ref l] []) rfl]
  repeat (any_goals (first | assumption | wp_step))
  refine codeAny_mono (code_set_new_1 (.ref l) (E := E) (Q₁ := fun u t => ∃ led : Bool, u = .ref s.heap.objs.size ∧ t = { s with heap := s.heap.push (set0 led) }) fun led => ⟨led, rfl, rfl⟩) fun r s1 z => ?_
  rcases r with e | (_ | _ | _ | u)
  · exact z
  · exact z.elim
  · exact z.elim
  · exact z.elim
  obtain ⟨led, rfl, rfl⟩ := z
  have g0 : (s.heap.push (set0 led)).get? s.heap.objs.size = some (set0 led) := Heap.get?_push_size _ rfl
  have r6 := C.init.lookup; have r7 := C.init.bind (.ref s.heap.objs.size)
  have ty : Shared.TypeIs { s with heap := s.heap.push (set0 led) } (.ref s.heap.objs.size) "set" := ⟨_, g0, rfl⟩
  repeat (any_goals (first | assumption | wp_step))
  refine codeAny_mono (codeAny_call_builtin (R := wants (fun r t => r = .none ∧ ∃ h' tk, t = { s with heap := h', toks := tk } ∧ h'.SetOf (PySem.strKind prog w) s.heap.objs.size (fun k => (difs xs).any (· == k)) (difs xs).length ∧
    ∀ b o, b < s.heap.objs.size → s.heap.get? b = some o → h'.get? b = some o) E) C.init.plain PySem.F.entry_set_init (check_set_init_1 ty ?_)) fun r s2 z => ?_
  · obtain ⟨⟨c1, c2, c3, c4⟩, a1, a2, a3, a4⟩ := hl
    simp only at a2 a4
    subst a2; subst a4
    have gl : (s.heap.push (set0 led)).get? l = some { cls := .type "tuple", dict := c2, data := .seq items a3, slots := c4 } := Heap.get?_push_of_some _ a1
    have isT : (s.heap.push (set0 led)).IsTuple l items := ⟨_, gl, rfl, a3, rfl⟩
    have r8 := PySem.F.sub_tuple_set; have r9 := PySem.F.sub_tuple_frozenset
    have r10 : (Value.type "tuple" == Value.type "dict") = false := by decide
    unfold Builtin.«set.__init__» noKeywords Builtin.Frozenset.updateFrom
    generalize hPI : pyIter = PI
    wp_walk
    subst hPI
    refine wpAny_pyIter_tuple isT (wpAny_bind (wpAny_runValue ?_))
    have ls : l < s.heap.objs.size := Heap.lt_size a1
    have sz : (s.heap.push (set0 led)).objs.size = s.heap.objs.size + 1 := Heap.size_push ..
    have n1 : l ≠ (s.heap.push (set0 led)).objs.size := by rw [sz]; exact Nat.ne_of_lt (Nat.lt_succ_of_lt ls)
    have h3 : A.in1.in1.in1.handled = none := by simp [hh]
    have out : s.heap.objs.size ∉ [(s.heap.push (set0 led)).objs.size, l] := by
      rw [sz]
      simp only [List.mem_cons, List.not_mem_nil, or_false, not_or]
      exact ⟨Nat.ne_of_lt (Nat.lt_succ_self _), Nat.ne_of_gt ls⟩
    have len : xs.length = items.size := by rw [← StrsAre.len_eq hi, Array.length_toList]
    refine fill_set ((Walks.tuple h3 _ l n1 items).toS) out xs len (by rw [← len]; exact hb) (fun i v e => strs_get hi i v (by rw [Array.getElem?_toList]; exact e)) items.size 0 _ (by omega) ⟨⟨_, Heap.get?_push_size _ rfl, rfl, rfl⟩, isT.push _⟩ ?_ fun s' mv so => ?_
    · exact (setObjOf_fresh (knd := PySem.strKind prog w) led).setOf (Heap.get?_push_of_some _ g0) (by unfold scanBound; omega)
    · obtain ⟨h', g', d', tk', os'⟩ := s'
      have e1 : g' = s.gens := mv.gens
      have e2 : d' = s.drawn := mv.drawn
      have e3 : os' = s.os := mv.os
      subst e1 e2 e3
      show wpAny _ _ _ _ _ _
      apply wpAny_pure
      show wpAny _ _ (ret Value.none) _ _ _
      refine wpAny_pure ⟨rfl, h', tk', rfl, so, fun b o lb eo => mv.heap b o ?_ (Heap.get?_push_of_some _ (Heap.get?_push_of_some _ eo))⟩
      rw [sz]
      simp only [List.mem_cons, List.not_mem_nil, or_false, not_or]
      exact ⟨Nat.ne_of_lt lb, Nat.ne_of_lt (Nat.lt_succ_of_lt lb)⟩
  · rcases r with e | (_ | _ | _ | u)
    · exact z
    · exact z.elim
    · exact z.elim
    · exact z.elim
    obtain ⟨rfl, h', tk, rfl, so, kp⟩ := z
    repeat (any_goals (first | assumption | wp_step))
    exact q h' _ so kp
end
/-! ### len(set(t)), t a tuple of texts -/
def strD : D → Option Str
  | .str x => some x
  | _ => none
def strsD (ds : List D) : Option (List Str) := ds.mapM strD
def fLenSet (env : Env) : List D → Option D
  | [d] => (rdT env d).bind fun ds => (strsD ds).bind fun xs => if xs.length ≤ 4000 then some (.int (difs xs).length) else none
  | _ => none
theorem OwL.strs {K : PySem.W.Frag} {mg : Str → Option Value} {S : Addr → Prop} {σ : St} {H : Hp} : ∀ {B : List Addr} {vs : List V} {ds : List D} {xs : List Str}, OwL K mg S σ H B vs ds → strsD ds = some xs → vs = xs.map V.str
  | _, _, _, _, .nil, h => by
    simp [strsD] at h
    subst h
    rfl
  | _, _, _, _, @OwL.cons _ _ _ _ _ _ _ v vs d ds a b _, h => by
    simp only [strsD, List.mapM_cons] at h
    obtain ⟨x, e1, h⟩ := Option.bind_eq_some_iff.mp h
    obtain ⟨xs', e2, h⟩ := Option.bind_eq_some_iff.mp h
    cases h
    have := b.strs e2
    subst this
    cases d with
    | str y =>
      cases e1
      cases a
      rfl
    | _ => cases e1
def rLenSet (K : PySem.W.Frag) : V → Hp → VK → Prop := fun v H Q => ∃ (l : Addr) (xs : List Str), v = .ref l ∧ SqT K H l (xs.map V.str) ∧ xs.length ≤ 4000 ∧ Q (.int (difs xs).length) H
section
variable {X : Cx} {W : WX} {k : Nat}
theorem pr_lenSet : PureR X (r1 (rLenSet X.K)) fLenSet := fun T env σ H A B vs ds d Q I o h q => by
  unfold fLenSet at h
  split at h
  · rename_i d0
    obtain ⟨es, e1, h⟩ := Option.bind_eq_some_iff.mp h
    obtain ⟨xs, e2, h⟩ := Option.bind_eq_some_iff.mp h
    split at h
    · rename_i hl
      cases h
      obtain ⟨v, B1, rfl, o1, _⟩ := o.inv1
      obtain ⟨a, ws, B2, rfl, im, ol⟩ := I.rdT o1 e1
      have := ol.strs e2
      subst this
      exact ⟨_, xs, rfl, im.sq, hl, q _ H [] (fun _ _ e => e) (by simp) (.int _)⟩
    · cases h
  · cases h
theorem vals_strs : ∀ {xs : List Str} {us : List Value}, Vals (xs.map V.str) us → PyProof.Rows.StrsAre us xs
  | [], _, .nil => .nil
  | x :: xs, _, .cons ⟨t, e⟩ r => by
    subst e
    exact .cons x t (vals_strs r)
theorem pe_lenSetT {a : Expr} {ta : TE} {p p2 q pos : Pos} (hc : X.calm = true) (g1 : Gl X "len") (m1 : X.mg "len" = none) (g2 : Gl X "set") (m2 : X.mg "set" = none) (ha : PE X a ta) (na : starEach [a] X.env = (false, eval a X.env) :: starEach [] X.env := by rfl) :
    PE X (.Call (.Name "len" p) [.Call (.Name "set" p2) [a] [] q] [] pos) (tUn (rLenSet X.K) ta) := by
  constructor
  intro pins s σ H Q I h
  refine wpAny_Call_Name_kw (ld_blt I g1 m1 PySem.boot_len (PyProof.Rows.callWith_builtin1 (PyProof.Rows.args_cons ?_ rfl) rfl rfl))
  refine wpAny_Call_Name_kw (ld_blt I g2 m2 PyProof.Rows.boot_set ?_)
  refine PyProof.Rows.callWith_type1 (PyProof.Rows.args_cons (thn (ha.run pins s σ H _ I h) ?_) na) na rfl
  rintro v s1 ⟨x, H1, I1, r1, l, xs, rfl, hq, hl, q1⟩
  apply PyProof.Rows.args_nil
  cases r1
  obtain ⟨its, r, pl, hz⟩ := I1.tuple hq
  refine set_of_tup (I1.ok.hd hc) pl (by simpa using vals_strs r) (by unfold scanBound; omega) fun h' tk so kp => PyProof.Rows.args_nil ?_
  have hd := difs_len xs
  obtain ⟨o, es, ep, t, ho, hex, hd', _, _, _, hf, hn⟩ := so
  exact call_len_set ho hex hd' hf (by rw [hn]; omega) ⟨.int _, H1, (I1.kept (h' := h') (t' := tk) fun b o e => kp b o (Heap.lt_size e) e).tok _, ⟨_, by rw [hn]⟩, q1⟩
theorem de_lenSet {a : Expr} {p p2 q pos : Pos} {f : Env → Out D} (Z : Sit X W k) (g1 : Gl X "len") (m1 : X.mg "len" = none) (g2 : Gl X "set") (m2 : X.mg "set" = none) (ha : DE X W a f) (na : starEach [a] X.env = (false, eval a X.env) :: starEach [] X.env := by rfl) :
    DE X W (.Call (.Name "len" p) [.Call (.Name "set" p2) [a] [] q] [] pos) (dOp fLenSet (dCons f dNil)) := let ⟨_, x, y⟩ := ha; ⟨_, pe_lenSetT Z.calm g1 m1 g2 m2 x na, se_un y pr_lenSet⟩
end
end Dn
/-! Dn17: built-in functions and types. -/
namespace Dn
open PySem PySem.Spec L2

structure BiR (X : Cx) (f : Value) (F : Env → List D → Option D) : Prop where
  ex : ∃ r, CallR X f r ∧ PureR X r F
section
variable {X : Cx} {W : WX} {F : Env → List D → Option D} {fs : Env → Out (List D)} {id T : String} {x : Str} {p pos : Pos} {e : Expr} {es : List Expr}
theorem de_bi (B : BiR X (.builtin id) F) (hv : bootBuiltins x = some (.builtin id)) (hg : Gl X x) (hm : X.mg x = none) (ha : DA X W (e :: es) fs) (hn : x ≠ "__name__" := by decide) (hdb : (x == ("__debug__" : Str)) = false := by decide)
    (he : starEach (e :: es) X.env = (false, eval e X.env) :: starEach es X.env := by rfl) (hpl : (backTo pos (starEach es X.env)).any (·.1) = false := by rfl) : DE X W (.Call (.Name x p) (e :: es) [] pos) (dOp F fs) :=
  let ⟨_, c, q⟩ := B.ex; let ⟨_, a, b⟩ := ha; ⟨_, pe_callB c hg hm hv a hn hdb he hpl, se_app b q⟩
theorem de_ty (B : BiR X (.type T) F) (hv : bootBuiltins x = some (.type T)) (hg : Gl X x) (hm : X.mg x = none) (ha : DA X W (e :: es) fs) (hn : x ≠ "__name__" := by decide) (hdb : (x == ("__debug__" : Str)) = false := by decide)
    (he : starEach (e :: es) X.env = (false, eval e X.env) :: starEach es X.env := by rfl) (hpl : (backTo pos (starEach es X.env)).any (·.1) = false := by rfl) : DE X W (.Call (.Name x p) (e :: es) [] pos) (dOp F fs) :=
  let ⟨_, c, q⟩ := B.ex; let ⟨_, a, b⟩ := ha; ⟨_, pe_callTy c hg hm hv a hn hdb he hpl, se_app b q⟩
end

/-! ### len, abs, max, min, int -/
def lenD : D → Option Nat
  | .str x => if x.length ≤ sizeLine then some x.length else none
  | .tup ds => some ds.length
  | .lst ds => some ds.length
  | .own ds => some ds.length
  | .scr ds => some ds.length
  | .dic ks ds => some ks.length
  | .odic ks ds => some ks.length
  | _ => none
def fLen (env : Env) : List D → Option D
  | [d] => ((rd env d).bind lenD).map fun n => .int (n : Nat)
  | _ => none
def fAbs (env : Env) : List D → Option D
  | [.int i] => some (.int (if i < 0 then -i else i))
  | _ => none
def fMax2 (env : Env) : List D → Option D
  | [.int i, .int j] => some (.int (if j > i then j else i))
  | _ => none
def fMin2 (env : Env) : List D → Option D
  | [.int i, .int j] => some (.int (if j < i then j else i))
  | _ => none
def fInt1 (env : Env) : List D → Option D
  | [.int i] => some (.int i)
  | [.bl b] => some (.int (if b then 1 else 0))
  | _ => none
section
variable {X : Cx}
theorem len_zip {α β : Type} {ks : List α} {vs : List β} (h : ks.length = vs.length) : (ks.zip vs).length = ks.length := by rw [List.length_zip, h, Nat.min_self]
theorem CallR.or {f : Value} {r r' : List V → Hp → VK → Prop} (h : CallR X f r) (h' : CallR X f r') : CallR X f (fun vs H Q => r vs H Q ∨ r' vs H Q) := fun pins s σ H xs us Q I rr q => q.elim (h pins s σ H xs us Q I rr) (h' pins s σ H xs us Q I rr)
theorem b_len : BiR X (.builtin "len") fLen := ⟨_, CallR.or call_len call_lenD, fun T env σ H A B vs ds d Q I o h q => by
  unfold fLen at h
  split at h
  · rename_i d0
    obtain ⟨n, h1, rfl⟩ := Option.map_eq_some_iff.mp h
    obtain ⟨c, h2, h3⟩ := Option.bind_eq_some_iff.mp h1
    obtain ⟨v, B1, rfl, o1, _⟩ := o.inv1
    obtain ⟨B2, o2⟩ := I.rd o1 h2
    have fin := q (.int (n : Nat)) H [] (fun _ _ e => e) (by simp) (.int _)
    cases o2 with
    | str x =>
      have h4 : (if x.length ≤ sizeLine then some x.length else none) = some n := h3
      split at h4
      · rename_i hz
        cases h4
        exact .inl ⟨_, _, rfl, ⟨hz, rfl⟩, fin⟩
      · cases h4
    | tup i l => cases h3; exact .inl ⟨_, _, rfl, .inr ⟨_, i.sq, l.length.symm⟩, fin⟩
    | lst i l => cases h3; exact .inl ⟨_, _, rfl, .inl ⟨_, i.sq, l.length.symm⟩, fin⟩
    | scr i l => cases h3; exact .inl ⟨_, _, rfl, .inl ⟨_, i.sq, l.length.symm⟩, fin⟩
    | own i _ l => cases h3; exact .inl ⟨_, _, rfl, .inl ⟨_, .inl (.inl i), l.length.symm⟩, fin⟩
    | dic i l => cases h3; exact .inr ⟨_, _, rfl, i.2.1, by rw [len_zip i.2.2]; exact fin⟩
    | odic i e _ l => cases h3; exact .inr ⟨_, _, rfl, i, by rw [len_zip e]; exact fin⟩
    | _ => cases h3
  · cases h⟩
theorem b_abs : BiR X (.builtin "abs") fAbs := ⟨_, call_abs, fun T env σ H A B vs ds d Q I o h q => by
  unfold fAbs at h
  split at h
  · cases h
    obtain ⟨v, B1, rfl, o1, _⟩ := o.inv1
    have := o1.intv
    subst this
    exact ⟨_, rfl, q _ H [] (fun _ _ e => e) (by simp) (.int _)⟩
  · cases h⟩
theorem b_max2 (hc : X.calm = true) : BiR X (.builtin "max") fMax2 := ⟨_, call_max2 hc, fun T env σ H A B vs ds d Q I o h q => by
  unfold fMax2 at h
  split at h
  · cases h
    obtain ⟨v, u, B1, B2, rfl, o1, o2, _⟩ := o.inv2
    have := o1.intv
    subst this
    have := o2.intv
    subst this
    exact ⟨_, _, rfl, q _ H [] (fun _ _ e => e) (by simp) (.int _)⟩
  · cases h⟩
theorem b_min2 (hc : X.calm = true) : BiR X (.builtin "min") fMin2 := ⟨_, call_min2 hc, fun T env σ H A B vs ds d Q I o h q => by
  unfold fMin2 at h
  split at h
  · cases h
    obtain ⟨v, u, B1, B2, rfl, o1, o2, _⟩ := o.inv2
    have := o1.intv
    subst this
    have := o2.intv
    subst this
    exact ⟨_, _, rfl, q _ H [] (fun _ _ e => e) (by simp) (.int _)⟩
  · cases h⟩
theorem b_int : BiR X (.type "int") fInt1 := ⟨_, call_int1, fun T env σ H A B vs ds d Q I o h q => by
  unfold fInt1 at h
  split at h
  · cases h
    obtain ⟨v, B1, rfl, o1, _⟩ := o.inv1
    have := o1.intv
    subst this
    exact .inl ⟨_, rfl, q _ H [] (fun _ _ e => e) (by simp) (.int _)⟩
  · cases h
    obtain ⟨v, B1, rfl, o1, _⟩ := o.inv1
    have := o1.blv
    subst this
    exact .inr ⟨_, rfl, q _ H [] (fun _ _ e => e) (by simp) (.int _)⟩
  · cases h⟩
end

/-! ### list(..), tuple(..), all(..), any(..) -/
def fListOf (env : Env) : List D → Option D
  | [d] => ((rd env d).bind seqA).bind fun ds => if plainL ds = true then some (.own ds) else none
  | _ => none
def fTupOf (env : Env) : List D → Option D
  | [d] => ((rd env d).bind seqA).bind fun ds => if plainL ds = true then some (.tup ds) else none
  | _ => none
def blD : D → Option Bool
  | .bl b => some b
  | _ => none
def fAll (env : Env) : List D → Option D
  | [d] => (rdL env d).bind fun ds => (ds.mapM blD).map fun bs => .bl (bs.all id)
  | _ => none
def fAny (env : Env) : List D → Option D
  | [d] => (rdL env d).bind fun ds => (ds.mapM blD).map fun bs => .bl (bs.any id)
  | _ => none
section
variable {K : PySem.W.Frag} {mg : Str → Option Value} {S : Addr → Prop} {σ : St} {H : Hp}
theorem OwL.bls : ∀ {B : List Addr} {vs : List V} {ds : List D} {xs : List Bool}, OwL K mg S σ H B vs ds → ds.mapM blD = some xs → vs = xs.map V.bl
  | _, _, _, _, .nil, h => by
    simp at h
    subst h
    rfl
  | _, _, _, _, @OwL.cons _ _ _ _ _ _ _ v vs d ds a b _, h => by
    simp only [List.mapM_cons] at h
    obtain ⟨x, e1, h⟩ := Option.bind_eq_some_iff.mp h
    obtain ⟨xs', e2, h⟩ := Option.bind_eq_some_iff.mp h
    cases h
    have := b.bls e2
    subst this
    cases d with
    | bl y =>
      cases e1
      cases a
      rfl
    | _ => cases e1
theorem OwL.bareL {B : List Addr} {vs : List V} {ds : List D} (o : OwL K mg S σ H B vs ds) (h : plainL ds = true) : OwL K mg S σ H [] vs ds := by
  have e := o.bare h
  subst e
  exact o
end
section
variable {X : Cx}
theorem b_list : BiR X (.type "list") fListOf := ⟨_, call_list_of, fun T env σ H A B vs ds d Q I o h q => by
  unfold fListOf at h
  split at h
  · obtain ⟨es, h1, h4⟩ := Option.bind_eq_some_iff.mp h
    obtain ⟨c, h2, h3⟩ := Option.bind_eq_some_iff.mp h1
    split at h4
    · rename_i hp
      cases h4
      obtain ⟨v, B1, rfl, o1, _⟩ := o.inv1
      obtain ⟨B2, o2⟩ := I.rd o1 h2
      obtain ⟨a, ws, B3, rfl, sq, ol⟩ := o2.seqA h3
      refine ⟨a, ws, rfl, sq, fun l nl => q _ _ [l] (fun b u e => by rw [upd_ne (ne_of_none e nl)]; exact e) (by simp [nl]) ?_⟩
      have ol' : OwL X.K X.mg (SA A (TB T [])) σ H [] ws es := (ol.bareL hp).weak fun p z => z.imp (fun z => z.imp id fun z => by cases z) id
      have := ol'.bareL hp
      exact .own upd_same (by simp) ((ol.bareL hp).anew nl)
    · cases h4
  · cases h⟩
theorem b_tuple : BiR X (.type "tuple") fTupOf := ⟨_, call_tuple_of, fun T env σ H A B vs ds d Q I o h q => by
  unfold fTupOf at h
  split at h
  · obtain ⟨es, h1, h4⟩ := Option.bind_eq_some_iff.mp h
    obtain ⟨c, h2, h3⟩ := Option.bind_eq_some_iff.mp h1
    split at h4
    · rename_i hp
      cases h4
      obtain ⟨v, B1, rfl, o1, _⟩ := o.inv1
      obtain ⟨B2, o2⟩ := I.rd o1 h2
      have goL : ∀ a ws B3, SqL X.K H a ws → OwL X.K X.mg (SA A (TB T B)) σ H B3 ws es → ∃ p ys, [V.ref a] = [V.ref p] ∧ ((SqL X.K H p ys ∧ ∀ l, H l = none → Q (.ref l) (upd H l (.tup ys))) ∨ (SqT X.K H p ys ∧ Q (.ref p) H)) := fun a ws B3 sq ol =>
        ⟨a, ws, rfl, .inl ⟨sq, fun l nl => q _ _ [] (fun b u e => by rw [upd_ne (ne_of_none e nl)]; exact e) (by simp) (.tup (.inl ⟨fun z => I.there l (z.elim (fun z => z.elim (fun z => Or.inl (Or.inl z)) fun z => by cases z) Or.inr) nl, .inl upd_same⟩)
          (((ol.bareL hp).anew nl).weak fun p z => z.imp (fun z => z.elim (fun z => Or.inl z) fun z => by cases z) id))⟩⟩
      cases o2 with
      | tup i l =>
        cases h3
        have lb := l.bareL hp
        have wk : ∀ p, SA A (TB T []) p → SA A (TB T B) p := fun p z => z.imp (fun z => z.imp id fun z => by cases z) id
        exact ⟨_, _, rfl, .inr ⟨i.sq, q _ H [] (fun _ _ e => e) (by simp) (Ow.weak (.tup i lb) wk)⟩⟩
      | lst i l => cases h3; exact goL _ _ _ i.sq l
      | scr i l => cases h3; exact goL _ _ _ i.sq l
      | own i _ l => cases h3; exact goL _ _ _ (.inl (.inl i)) l
      | _ => cases h3
    · cases h4
  · cases h⟩
theorem b_all (hc : X.calm = true) : BiR X (.builtin "all") fAll := ⟨_, cr_all hc, fun T env σ H A B vs ds d Q I o h q => by
  unfold fAll at h
  split at h
  · obtain ⟨es, h1, h2⟩ := Option.bind_eq_some_iff.mp h
    obtain ⟨bs, h3, rfl⟩ := Option.map_eq_some_iff.mp h2
    obtain ⟨v, B1, rfl, o1, _⟩ := o.inv1
    obtain ⟨a, ws, B3, rfl, sq, ol⟩ := I.rdL o1 h1
    have := ol.bls h3
    subst this
    exact ⟨a, bs, rfl, sq, q _ H [] (fun _ _ e => e) (by simp) (.bl _)⟩
  · cases h⟩
theorem b_any (hc : X.calm = true) : BiR X (.builtin "any") fAny := ⟨_, cr_any hc, fun T env σ H A B vs ds d Q I o h q => by
  unfold fAny at h
  split at h
  · obtain ⟨es, h1, h2⟩ := Option.bind_eq_some_iff.mp h
    obtain ⟨bs, h3, rfl⟩ := Option.map_eq_some_iff.mp h2
    obtain ⟨v, B1, rfl, o1, _⟩ := o.inv1
    obtain ⟨a, ws, B3, rfl, sq, ol⟩ := I.rdL o1 h1
    have := ol.bls h3
    subst this
    exact ⟨a, bs, rfl, sq, q _ H [] (fun _ _ e => e) (by simp) (.bl _)⟩
  · cases h⟩
end
end Dn
/-! Dn18: isinstance, repr. -/
namespace Dn
open PySem PySem.Spec L2

def tyD : D → Option String
  | .non => some "NoneType"
  | .bl _ => some "bool"
  | .int _ => some "int"
  | .str _ => some "str"
  | .tup _ => some "tuple"
  | .lst _ => some "list"
  | .own _ => some "list"
  | .scr _ => some "list"
  | .dic _ _ => some "dict"
  | .odic _ _ => some "dict"
  | _ => none
def tyNames : List String := ["NoneType", "bool", "int", "str", "tuple", "list", "dict"]
def isiB (t T : String) : Bool := t == T || (t == "bool" && T == "int")
theorem isi_kit : ∀ t ∈ tyNames, ∀ T ∈ tyNames.tail, kitB t T = some (isiB t T) := by decide +kernel
theorem tyD_mem {d : D} {t : String} (h : tyD d = some t) : t ∈ tyNames := by
  cases d <;> simp [tyD] at h <;> subst h <;> simp [tyNames]
def fIsi (T : String) (env : Env) (d : D) : Option D := ((rd env d).bind tyD).map fun t => .bl (isiB t T)
def fIsi2 (T T2 : String) (env : Env) (d : D) : Option D := ((rd env d).bind tyD).map fun t => .bl (isiB t T || isiB t T2)
def dOn (F : Env → D → Option D) (f : Env → Out D) : Env → Out D := fun env => (f env).bind fun d env1 => match F env1 d with
  | some r => .ok r env1
  | none => .bad
section
variable {K : PySem.W.Frag} {mg : Str → Option Value} {S : Addr → Prop} {σ : St} {H : Hp} {B : List Addr} {v : V} {d : D}
theorem Ow.tyx {t : String} (o : Ow K mg S σ H B v d) (h : tyD d = some t) : TyX K H v (.type t) := by
  cases o with
  | non => cases h; exact .base .non
  | bl b => cases h; exact .base (.bl b)
  | int b => cases h; exact .base (.int b)
  | str b => cases h; exact .base (.str b)
  | tup i l =>
    cases h
    rcases i with ⟨_, i | ⟨o, i⟩⟩ | ⟨o, its, n, e, c, _⟩
    · exact .base (.tup i)
    · exact .fTuple i
    · exact .kTuple e c
  | lst i l => cases h; exact .base (.lst i.2)
  | scr i l =>
    cases h
    rcases i with ⟨_, o, i⟩ | ⟨o, its, n, e, c, _⟩
    · exact .base (.frz i)
    · exact .kList e c
  | own i _ l => cases h; exact .base (.lst i)
  | dic i l => cases h; exact .base (.dK i.2.1)
  | odic i _ _ l => cases h; exact .base (.dK i)
  | _ => cases h
end
section
variable {X : Cx} {W : WX} {e : Expr} {f : Env → Out D} {p p2 p3 p4 pos : Pos} {T T2 : String} {x y : Str}
theorem se_isi {te : TE} (hT : T ∈ tyNames.tail) (hf : SE X W te f) : SE X W (tCB (rIsi X.K) (tCons te (tCons (tC (.ty T)) tNil))) (dOn (fIsi T) f) := fun T0 env σ H A Q I h => by
  refine hf T0 env σ H A _ I ?_
  unfold dOn at h
  cases ef : f env with
  | bad => rw [ef] at h; exact h
  | err x env' => rw [ef] at h; exact h
  | ok d env' =>
    rw [ef, Out.bind_ok] at h
    intro v H' A' B m I' o
    cases e2 : fIsi T env' d with
    | none => rw [e2] at h; exact h.elim
    | some r =>
      rw [e2] at h
      unfold fIsi at e2
      obtain ⟨t, h1, rfl⟩ := Option.map_eq_some_iff.mp e2
      obtain ⟨c, h2, h3⟩ := Option.bind_eq_some_iff.mp h1
      obtain ⟨B2, o2⟩ := I'.rd o h2
      refine ⟨v, .ty T, _, _, _, rfl, .ty T, o2.tyx h3, kit_ty (isi_kit t (tyD_mem h3) T hT), ?_⟩
      exact h _ H' A' [] (m.fewer fun p z => by cases z) (I'.weak fun p z => .inl (z.elim id fun z => by cases z)) (.bl _)
theorem de_isi (hT : T ∈ tyNames.tail) (hv : bootBuiltins y = some (.type T)) (hg : Gl X "isinstance") (hm : X.mg "isinstance" = none) (hg2 : Gl X y) (hm2 : X.mg y = none) (he : DE X W e f) (hn : y ≠ "__name__" := by decide) (hd : (y == ("__debug__" : Str)) = false := by decide)
    (hs : starEach [e, .Name y p2] X.env = (false, eval e X.env) :: starEach [.Name y p2] X.env := by rfl) (hs2 : starEach [.Name y p2] X.env = [(false, eval (.Name y p2) X.env)] := by rfl) (hpl : (backTo pos (starEach [.Name y p2] X.env)).any (·.1) = false := by rfl) :
    DE X W (.Call (.Name "isinstance" p) [e, .Name y p2] [] pos) (dOn (fIsi T) f) := by
  obtain ⟨t, a, b⟩ := he
  exact ⟨_, pe_callB call_isi hg hm PyProof.Rows.boot_isinstance (pa_cons a (pa_cons (pe_bltn (v := .ty T) hg2 hm2 hv rfl hn hd) pa_nil hs2) hs) (by decide) (by decide) hs hpl, se_isi hT b⟩
theorem se_isi2 {te : TE} (hT : T ∈ tyNames.tail) (hT2 : T2 ∈ tyNames.tail) (hf : SE X W te f) : SE X W (tCB (rIsiT X.K) (tCons te (tCons (tTup (tCons (tC (.ty T)) (tCons (tC (.ty T2)) tNil))) tNil))) (dOn (fIsi2 T T2) f) := fun T0 env σ H A Q I h => by
  refine hf T0 env σ H A _ I ?_
  unfold dOn at h
  cases ef : f env with
  | bad => rw [ef] at h; exact h
  | err x env' => rw [ef] at h; exact h
  | ok d env' =>
    rw [ef, Out.bind_ok] at h
    intro v H' A' B m I' o
    cases e2 : fIsi2 T T2 env' d with
    | none => rw [e2] at h; exact h.elim
    | some r =>
      rw [e2] at h
      unfold fIsi2 at e2
      obtain ⟨t, h1, rfl⟩ := Option.map_eq_some_iff.mp e2
      obtain ⟨c, h2, h3⟩ := Option.bind_eq_some_iff.mp h1
      refine ⟨by show 2 ≤ sizeLine; decide, fun q nq => ?_⟩
      have kp : ∀ b u, H' b = some u → upd H' q (.tup [.ty T, .ty T2]) b = some u := fun b u e => by rw [upd_ne (ne_of_none e nq)]; exact e
      have I2 : EnvOk X.K X.mg (TB T0 B) env' σ (upd H' q (.tup [.ty T, .ty T2])) A' := I'.more kp
      obtain ⟨B2, o2⟩ := I2.rd (o.chg (Bp := fun _ => True) ⟨fun b u e _ => kp b u e, fun _ _ z => z⟩ (fun _ _ => trivial) fun _ _ e => .inr e) h2
      have k1 := kit_ty (K := X.K) (isi_kit t (tyD_mem h3) T hT)
      have k2 := kit_ty (K := X.K) (isi_kit t (tyD_mem h3) T2 hT2)
      refine ⟨v, q, _, _, _, isiB t T || isiB t T2, rfl, upd_same, .cons (.ty T) (.cons (.ty T2) .nil), o2.tyx h3, ?_, ?_⟩
      · refine kitAny_cons k1 (fun e1 => kitAny_cons k2 (fun e2 => ?_) fun e2 => by rw [e1, e2]; rfl) fun e1 => by rw [e1]; rfl
        rw [e1, e2]
        exact kitAny_nil
      · exact h _ _ A' [] ((m.trans (Moved.grown (A := A') (B := []) kp (by simp)) (B := []) fun p z => by cases z)) (I2.weak fun p z => .inl (z.elim id fun z => by cases z)) (.bl _)
theorem de_isi2 (hT : T ∈ tyNames.tail) (hT2 : T2 ∈ tyNames.tail) (hv : bootBuiltins x = some (.type T)) (hv2 : bootBuiltins y = some (.type T2)) (hg : Gl X "isinstance") (hm : X.mg "isinstance" = none) (hg1 : Gl X x) (hm1 : X.mg x = none) (hg2 : Gl X y) (hm2 : X.mg y = none) (he : DE X W e f) {k : Nat}
    (hn1 : x ≠ "__name__" := by decide) (hd1 : (x == ("__debug__" : Str)) = false := by decide) (hn : y ≠ "__name__" := by decide) (hd : (y == ("__debug__" : Str)) = false := by decide)
    (hs : starEach [e, .Tuple [.Name x p2, .Name y p3] k p4] X.env = (false, eval e X.env) :: starEach [.Tuple [.Name x p2, .Name y p3] k p4] X.env := by rfl) (hs1 : starEach [.Tuple [.Name x p2, .Name y p3] k p4] X.env = [(false, eval (.Tuple [.Name x p2, .Name y p3] k p4) X.env)] := by rfl)
    (hs2 : starEach [.Name x p2, .Name y p3] X.env = (false, eval (.Name x p2) X.env) :: starEach [.Name y p3] X.env := by rfl) (hs3 : starEach [.Name y p3] X.env = [(false, eval (.Name y p3) X.env)] := by rfl)
    (hpl : (backTo pos (starEach [.Tuple [.Name x p2, .Name y p3] k p4] X.env)).any (·.1) = false := by rfl) :
    DE X W (.Call (.Name "isinstance" p) [e, .Tuple [.Name x p2, .Name y p3] k p4] [] pos) (dOn (fIsi2 T T2) f) := by
  obtain ⟨t, a, b⟩ := he
  exact ⟨_, pe_callB call_isiT hg hm PyProof.Rows.boot_isinstance (pa_cons a (pa_cons (pe_tup (pa_cons (pe_bltn (v := .ty T) hg1 hm1 hv rfl hn1 hd1) (pa_cons (pe_bltn (v := .ty T2) hg2 hm2 hv2 rfl hn hd) pa_nil hs3) hs2)) pa_nil hs1) hs) (by decide) (by decide) hs hpl, se_isi2 hT hT2 b⟩
end

/-! ### repr -/
def isSeqP : PyData → Bool
  | .list _ => true
  | .tuple _ => true
  | _ => false
def reprOk (z : PyData) : Bool := z.canLay0 && z.showable && !z.hasDict && decide (z.depth < 64) && decide (z.shown.length ≤ sizeLine) && isSeqP z
def fRepr (env : Env) : List D → Option D
  | [d] => if reprOk (py (sub env d)) = true then some (.str (py (sub env d)).shown) else none
  | _ => none
def rRepr (K : PySem.W.Frag) : List V → Hp → VK → Prop := fun vs H Q => ∃ v z, vs = [v] ∧ Dp K H v z ∧ reprOk z = true ∧ Q (.str z.shown) H
section
variable {X : Cx} {W : WX} {k : Nat}
theorem call_repr (Z : Sit X W k) : CallR X (.builtin "repr") (rRepr X.K) := by
  intro pins s σ H vs us Q I r h
  obtain ⟨v, z, rfl, dp, ok, q⟩ := h
  obtain ⟨u, rfl, ru⟩ : ∃ u, us = [u] ∧ RelV v u := by
    cases r with
    | cons a b =>
      cases b
      exact ⟨_, rfl, a⟩
  obtain ⟨as, rd⟩ := Dp.reads I z v u dp ru
  simp only [reprOk, Bool.and_eq_true, decide_eq_true_eq, Bool.not_eq_true'] at ok
  obtain ⟨⟨⟨⟨⟨_, h2⟩, h3⟩, h4⟩, h5⟩, h6⟩ := ok
  obtain ⟨a, rfl⟩ : ∃ a, u = .ref a := by
    cases dp with
    | lst _ _ => exact ⟨_, ru⟩
    | tup _ _ => exact ⟨_, ru⟩
    | _ => cases h6
  have un := Z.room.un
  exact repr_of_reads' rd h2 (fun e => by rw [h3] at e; cases e) Z.quiet (by omega) (fun _ _ e => e) (fun h' u tk kp => ⟨.str _, H, I.kept kp, ⟨_, rfl⟩, q⟩) h5
theorem b_repr (Z : Sit X W k) : BiR X (.builtin "repr") fRepr := ⟨_, call_repr Z, fun T env σ H A B vs ds d Q I o h q => by
  unfold fRepr at h
  split at h
  · split at h
    · rename_i ok
      cases h
      obtain ⟨v, B1, rfl, o1, _⟩ := o.inv1
      have ok2 := ok
      simp only [reprOk, Bool.and_eq_true, decide_eq_true_eq, Bool.not_eq_true'] at ok2
      exact ⟨v, _, rfl, o1.dp I ok2.1.1.1.1.1, ok, q _ H [] (fun _ _ e => e) (by simp) (.str _)⟩
    · cases h
  · cases h⟩
end
end Dn
/-! Dn19: lists are changed. -/
namespace Dn
open PySem PySem.Spec L2

section
variable {K : PySem.W.Frag} {mg : Str → Option Value} {S : Addr → Prop} {σ : St} {H : Hp}
theorem OwL.append : ∀ {A B : List Addr} {vs us : List V} {ds es : List D}, OwL K mg S σ H A vs ds → OwL K mg S σ H B us es → (∀ p ∈ A, p ∉ B) → ∃ C, OwL K mg S σ H C (vs ++ us) (ds ++ es) ∧ ∀ p, p ∈ C ↔ p ∈ A ∨ p ∈ B
  | _, _, _, _, _, _, .nil, o, _ => ⟨_, o, fun p => by simp⟩
  | _, _, _, _, _, _, @OwL.cons _ _ _ _ _ A1 A2 v vs d ds a b n, o, h => by
    obtain ⟨C, oc, hc⟩ := b.append o fun p hp => h p (List.mem_append_right _ hp)
    refine ⟨A1 ++ C, .cons a oc fun p hp z => ?_, fun p => ?_⟩
    · rcases (hc p).mp z with z | z
      · exact n p hp z
      · exact h p (List.mem_append_left _ hp) z
    · rw [List.mem_append, List.mem_append, hc, or_assoc]
theorem OwL.split : ∀ {A : List Addr} {vs : List V} {ds : List D} (k : Nat), OwL K mg S σ H A vs ds → ∃ B C, OwL K mg S σ H B (vs.take k) (ds.take k) ∧ OwL K mg S σ H C (vs.drop k) (ds.drop k) ∧ (∀ p ∈ B, p ∉ C) ∧ (∀ p, p ∈ B ∨ p ∈ C → p ∈ A)
  | _, _, _, 0, o => ⟨[], _, .nil, o, by simp, fun p z => z.elim (fun z => by cases z) id⟩
  | _, _, _, k + 1, .nil => ⟨[], [], .nil, .nil, by simp, by simp⟩
  | _, _, _, k + 1, @OwL.cons _ _ _ _ _ A1 A2 v vs d ds a b n => by
    obtain ⟨B, C, ob, oc, h1, h2⟩ := b.split k
    refine ⟨A1 ++ B, C, .cons a ob fun p hp z => n p hp (h2 p (.inl z)), oc, fun p hp z => ?_, fun p z => ?_⟩
    · rcases List.mem_append.mp hp with hp | hp
      · exact n p hp (h2 p (.inr z))
      · exact h1 p hp z
    · rw [List.mem_append] at z ⊢
      rcases z with (z | z) | z
      · exact .inl z
      · exact .inr (h2 p (.inl z))
      · exact .inr (h2 p (.inr z))
/-- one is taken out -/
theorem OwL.take1 {A : List Addr} {vs : List V} {ds : List D} {k : Nat} {d : D} (o : OwL K mg S σ H A vs ds) (h : ds[k]? = some d) : ∃ v B C, vs[k]? = some v ∧ Ow K mg S σ H B v d ∧ OwL K mg S σ H C (vs.eraseIdx k) (ds.eraseIdx k) ∧ (∀ p ∈ C, p ∉ B) ∧ (∀ p, p ∈ B ∨ p ∈ C → p ∈ A) := by
  obtain ⟨B, C, ob, oc, h1, h2⟩ := o.split k
  have hk : k < ds.length := (List.getElem?_eq_some_iff.mp h).1
  have e1 : ds.drop k = d :: ds.drop (k + 1) := by rw [List.drop_eq_getElem_cons hk, (List.getElem?_eq_some_iff.mp h).2]
  have hk2 : k < vs.length := by rw [o.length]; exact hk
  have e2 : vs.drop k = vs[k] :: vs.drop (k + 1) := List.drop_eq_getElem_cons hk2
  rw [e1, e2] at oc
  cases oc with
  | @cons C1 C2 _ _ _ _ a b n =>
    obtain ⟨E, oe, he⟩ := ob.append b fun p hp z => h1 p hp (List.mem_append_right _ z)
    refine ⟨vs[k], C1, E, List.getElem?_eq_getElem hk2, a, by rw [List.eraseIdx_eq_take_drop_succ, List.eraseIdx_eq_take_drop_succ]; exact oe, fun p hp z => ?_, fun p z => ?_⟩
    · rcases (he p).mp hp with q | q
      · exact h1 p q (List.mem_append_left _ z)
      · exact n p z q
    · rcases z with z | z
      · exact h2 p (.inr (List.mem_append_left _ z))
      · rcases (he p).mp z with q | q
        · exact h2 p (.inl q)
        · exact h2 p (.inr (List.mem_append_right _ q))
/-- one is put in -/
theorem OwL.put1 {A B : List Addr} {vs : List V} {ds : List D} {v : V} {d : D} (k : Nat) (o : OwL K mg S σ H A vs ds) (a : Ow K mg S σ H B v d) (n : ∀ p ∈ A, p ∉ B) : ∃ C, OwL K mg S σ H C (vs.take k ++ v :: vs.drop k) (ds.take k ++ d :: ds.drop k) ∧ ∀ p, p ∈ C → p ∈ A ∨ p ∈ B := by
  obtain ⟨A1, A2, o1, o2, h1, h2⟩ := o.split k
  obtain ⟨C, oc, hc⟩ := o1.append (OwL.cons a o2 fun p hp z => n p (h2 p (.inr z)) hp) fun p hp z => by
    rcases List.mem_append.mp z with z | z
    · exact n p (h2 p (.inl hp)) z
    · exact h1 p hp z
  refine ⟨C, oc, fun p z => ?_⟩
  rcases (hc p).mp z with z | z
  · exact .inl (h2 p (.inl z))
  · rcases List.mem_append.mp z with z | z
    · exact .inr z
    · exact .inl (h2 p (.inr z))
/-- one is put in another's place -/
theorem OwL.set1 {A B : List Addr} {vs : List V} {ds : List D} {v : V} {d : D} {k : Nat} (o : OwL K mg S σ H A vs ds) (a : Ow K mg S σ H B v d) (n : ∀ p ∈ A, p ∉ B) (hk : k < ds.length) : ∃ C, OwL K mg S σ H C (vs.set k v) (ds.set k d) ∧ ∀ p, p ∈ C → p ∈ A ∨ p ∈ B := by
  obtain ⟨w, B1, C1, _, _, oc, h1, h2⟩ := o.take1 (List.getElem?_eq_getElem hk)
  obtain ⟨C, oc', hc⟩ := oc.put1 k a fun p hp => n p (h2 p (.inr hp))
  have l := o.length
  refine ⟨C, ?_, fun p z => (hc p z).imp (fun z => h2 p (.inr z)) id⟩
  have e : ∀ {α : Type} (l : List α) (x : α), k < l.length → (l.eraseIdx k).take k ++ x :: (l.eraseIdx k).drop k = l.set k x := fun l x h => by
    rw [List.eraseIdx_eq_take_drop_succ, List.set_eq_take_append_cons_drop, if_pos h, List.take_append_of_le_length (by rw [List.length_take]; omega), List.take_take, Nat.min_self,
      List.drop_append_of_le_length (by rw [List.length_take]; omega), List.drop_eq_nil_of_le (by rw [List.length_take]; omega), List.nil_append]
  rw [← e vs v (by omega), ← e ds d hk]
  exact oc'
end

/-! ### a method that changes the list in a slot -/
def MutR (X : Cx) (r : V → List V → Hp → VK → Prop) (M : List D → List D → Option (D × List D)) : Prop :=
  ∀ S σ H l C B xs xds vs ads rd yds Q, H l = some (.lst xs) → OwL X.K X.mg S σ H C xs xds → OwL X.K X.mg S σ H B vs ads → (∀ p ∈ C, p ∉ B) → M xds ads = some (rd, yds) →
    (∀ ys rv C' B', OwL X.K X.mg S σ H C' ys yds → Ow X.K X.mg S σ H B' rv rd → (∀ p ∈ C', p ∉ B') → (∀ p, p ∈ C' ∨ p ∈ B' → p ∈ C ∨ p ∈ B) → Q rv (upd H l (.lst ys))) → r (.ref l) vs H Q
def ownAt (env : Env) (i : Nat) : Option (List D) := match env[i]? with
  | some (some (.own xs)) => some xs
  | _ => none
theorem ownAt_some {env : Env} {i : Nat} {xs : List D} (h : ownAt env i = some xs) : env[i]? = some (some (.own xs)) := by
  unfold ownAt at h
  split at h
  · cases h; assumption
  · cases h
def dMut (i : Nat) (M : List D → List D → Option (D × List D)) (fs : Env → Out (List D)) : Env → Out D := fun env => if (ownAt env i).isSome = true then
    (fs env).bind fun ds env1 => match mvL ds env1 with
      | some (ads, env2) => match ownAt env2 i with
        | some xs => match M xs ads with
          | some (rd, ys) => if noBor rd = true ∧ noBorL ys = true then .ok rd (env2.set i (some (.own ys))) else .bad
          | none => .bad
        | none => .bad
      | none => .bad
  else .bad
section
variable {X : Cx} {W : WX}
/-- the heap side of a change at slot i -/
theorem change {T : Addr → Prop} {env2 : Env} {σ : St} {H2 : Hp} {A2 : Nat → List Addr} {B1 C C' B' : List Addr} {i l : Nat} {xs : List D} {ys : List V} {yds : List D} {rv : V} {rd : D} (I2 : EnvOk X.K X.mg (TB T B1) env2 σ H2 A2) (hT : ∀ p ∈ B1, ¬ T p) (ei : env2[i]? = some (some (.own xs))) (si : σ[i]? = some (some (.ref l))) (hA : A2 i = l :: C) (hl : l ∉ C)
    (oy : OwL X.K X.mg (SA A2 (TB T B1)) σ H2 C' ys yds) (orr : Ow X.K X.mg (SA A2 (TB T B1)) σ H2 B' rv rd) (dj : ∀ p ∈ C', p ∉ B') (sb : ∀ p, p ∈ C' ∨ p ∈ B' → p ∈ C ∨ p ∈ B1) (nr : noBor rd = true) (ny : noBorL yds = true) :
    EnvOk X.K X.mg (TB T B') (env2.set i (some (.own yds))) σ (upd H2 l (.lst ys)) (setA A2 i (l :: C')) ∧ Ow X.K X.mg (SA (setA A2 i (l :: C')) (TB T B')) σ (upd H2 l (.lst ys)) B' rv rd := by
  have hi : i < env2.length := (List.getElem?_eq_some_iff.mp ei).1
  have lA : l ∈ A2 i := by rw [hA]; exact List.mem_cons_self
  have lS : SA A2 (TB T B1) l := .inr ⟨i, lA⟩
  have lB1 : l ∉ B1 := fun z => I2.sep i l lA (.inr z)
  have lC' : l ∉ C' := fun z => (sb l (.inl z)).elim hl lB1
  have lB' : l ∉ B' := fun z => (sb l (.inr z)).elim hl lB1
  have cA : ∀ p, p ∈ C → p ∈ A2 i := fun p z => by rw [hA]; exact List.mem_cons_of_mem _ z
  have ofC : ∀ p, p ∈ C' ∨ p ∈ B' → (p ∈ B1 ++ A2 i) := fun p z => (sb p z).elim (fun z => List.mem_append_right _ (cA p z)) (List.mem_append_left _)
  have J0 := I2.take ei
  have J1 : EnvOk X.K X.mg (TB T (B1 ++ A2 i)) (env2.set i none) σ H2 (setA A2 i []) := J0.weak fun p z => z.elim (fun z => .inl (.inl z)) fun z => (List.mem_append.mp z).elim (fun z => .inl (.inr z)) .inr
  have hT2 : ∀ p ∈ B1 ++ A2 i, ¬ T p := fun p hp z => (List.mem_append.mp hp).elim (fun q => hT p q z) fun q => I2.sep i p q (.inl z)
  have kp : ∀ b o, H2 b = some o → b ∉ B1 ++ A2 i → upd H2 l (.lst ys) b = some o := fun b o e nb => by
    have nl : b ≠ l := fun z => by
      subst z
      exact nb (List.mem_append_right _ lA)
    rw [upd_ne nl]
    exact e
  have here : ∀ p, p ∈ B' ++ (l :: C') → upd H2 l (.lst ys) p ≠ none := fun p hp => by
    by_cases e : p = l
    · subst e; rw [upd_same]; simp
    · rw [upd_ne e]
      rcases List.mem_append.mp hp with z | z
      · exact orr.there p z
      · rcases List.mem_cons.mp z with z | z
        · exact absurd z e
        · exact oy.there p z
  have J2 := J1.beside (G := B' ++ (l :: C')) hT2 kp (fun p hp => .inl (by
    rcases List.mem_append.mp hp with z | z
    · exact ofC p (.inr z)
    · rcases List.mem_cons.mp z with z | z
      · subst z; exact List.mem_append_right _ lA
      · exact ofC p (.inl z))) here
  have J3 : EnvOk X.K X.mg (TB (TB T B') (l :: C')) (env2.set i none) σ (upd H2 l (.lst ys)) (setA A2 i []) := J2.weak fun p z => by
    rcases z with (z | z) | z
    · exact .inl z
    · exact .inr (List.mem_append_left _ z)
    · exact .inr (List.mem_append_right _ z)
  have sA : ∀ j p, p ∈ setA A2 i (l :: C') j → p ∈ l :: C' ∨ p ∈ A2 j := fun j p z => by
    by_cases hj : j = i
    · subst hj; rw [setA_same] at z; exact .inl z
    · rw [setA_ne hj] at z; exact .inr z
  have inS : ∀ p, p ∈ C ∨ p ∈ B1 → SA A2 (TB T B1) p := fun p z => z.elim (fun z => .inr ⟨i, cA p z⟩) fun z => .inl (.inr z)
  have outS : ∀ p, SA (setA A2 i (l :: C')) (TB T B') p → SA A2 (TB T B1) p := fun p z => by
    rcases z with (z | z) | ⟨j, z⟩
    · exact .inl (.inl z)
    · exact inS p (sb p (.inr z))
    · rcases sA j p z with z | z
      · rcases List.mem_cons.mp z with z | z
        · subst z; exact lS
        · exact inS p (sb p (.inl z))
      · exact .inr ⟨j, z⟩
  have c : ∀ G : List Addr, l ∉ G → Chg (SA A2 (TB T B1)) (SA (setA A2 i (l :: C')) (TB T B')) (fun b => b ∈ G) H2 (upd H2 l (.lst ys)) := fun G nG => ⟨fun b u e z => by
    rw [upd_ne fun q => by
      subst q
      exact z.elim (fun z => z lS) nG]
    exact e, fun b _ z => outS b z⟩
  refine ⟨J3.swap hi si (fun p hp z => ?_) ⟨by simpa [noBor] using ny, .own upd_same lC' (oy.chg (c C' lC') (fun _ z => z) fun _ _ e => .inr e)⟩, orr.chg (c B' lB') (fun _ z => z) fun _ _ e => .inr e⟩
  rcases List.mem_cons.mp hp with q | q
  · subst q
    rcases z with z | z
    · exact I2.sep i p lA (.inl z)
    · exact lB' z
  · rcases z with z | z
    · rcases sb p (.inl q) with w | w
      · exact I2.sep i p (cA p w) (.inl z)
      · exact hT p w z
    · exact dj p q z
theorem EnvOk.ownAt {T : Addr → Prop} {env : Env} {σ : St} {H : Hp} {A : Nat → List Addr} {i : Nat} {xs : List D} (I : EnvOk X.K X.mg T env σ H A) (h : ownAt env i = some xs) :
    ∃ l vs C, σ[i]? = some (some (.ref l)) ∧ H l = some (.lst vs) ∧ A i = l :: C ∧ l ∉ C ∧ OwL X.K X.mg (SA A T) σ H C vs xs := by
  obtain ⟨_, v, s, o⟩ := I.slot i _ (ownAt_some h)
  generalize hB : A i = B at o
  cases o with
  | own e n l => exact ⟨_, _, _, s, e, rfl, n, l⟩
theorem se_mut {i : Nat} {ta : TA} {fs : Env → Out (List D)} {M : List D → List D → Option (D × List D)} {r : V → List V → Hp → VK → Prop} (hs : SL X W ta fs) (hr : MutR X r M) : SE X W (tBM X.K "list" r (tVar i) ta) (dMut i M fs) := fun T env σ H A Q I h => by
  unfold dMut at h
  split at h
  · rename_i h0
    obtain ⟨xs0, h0⟩ := Option.isSome_iff_exists.mp h0
    obtain ⟨l, vs0, C0, s0, e0, _, _, _⟩ := I.ownAt h0
    refine ⟨_, s0, .inl ⟨rfl, vs0, .inl (.inl e0)⟩, hs T env σ H A _ I ?_⟩
    cases ef : fs env with
    | bad => rw [ef] at h; exact h
    | err x env' => rw [ef] at h; exact h
    | ok ds env1 =>
      rw [ef, Out.bind_ok] at h
      intro vs H1 A1 B1 m1 I1 o1
      cases em : mvL ds env1 with
      | none => rw [em] at h; exact h.elim
      | some q =>
        obtain ⟨ads, env2⟩ := q
        rw [em] at h
        simp only at h
        obtain ⟨A2, I2, o2, n2, s2⟩ := mvL_ok I1 o1 em
        cases ex : ownAt env2 i with
        | none => rw [ex] at h; exact h.elim
        | some xs =>
          rw [ex] at h
          simp only at h
          cases eM : M xs ads with
          | none => rw [eM] at h; exact h.elim
          | some z =>
            obtain ⟨rd, yds⟩ := z
            rw [eM] at h
            simp only at h
            split at h
            · rename_i nb0
              obtain ⟨l', us, C, s', e', hA, hl, ol⟩ := I2.ownAt ex
              rw [s0] at s'
              cases s'
              have cA : ∀ p, p ∈ C → p ∈ A2 i := fun p z => by rw [hA]; exact List.mem_cons_of_mem _ z
              refine hr _ σ H1 l C B1 us xs vs ads rd yds Q e' ol o2 (fun p hp z => I2.sep i p (cA p hp) (.inr z)) eM fun ys rv C' B' oy orr dj sb => ?_
              have m2 : Moved A A2 B1 H H1 := ⟨m1.keep, fun p z => m1.new p (z.imp id fun ⟨j, z⟩ => ⟨j, s2 j p z⟩)⟩
              obtain ⟨I3, o3⟩ := change I2 (Moved.sepB I m2) (ownAt_some ex) s0 hA hl oy orr dj sb nb0.1 nb0.2
              have lA : l ∈ A2 i := by rw [hA]; exact List.mem_cons_self
              have back : ∀ p, p ∈ C ∨ p ∈ B1 → (∃ j, p ∈ A j) ∨ H p = none := fun p z => m2.new p (z.elim (fun z => .inr ⟨i, cA p z⟩) .inl)
              refine h rv _ _ B' ⟨fun b u e nb => ?_, fun p z => ?_⟩ I3 o3
              · have e1 := m1.keep b u e nb
                have nl : b ≠ l := fun z => by
                  subst z
                  rcases m2.new b (.inr ⟨i, lA⟩) with ⟨j, q⟩ | q
                  · exact nb j q
                  · rw [e] at q; cases q
                rw [upd_ne nl]
                exact e1
              · rcases z with z | ⟨j, z⟩
                · exact back p (sb p (.inr z))
                · by_cases hj : j = i
                  · subst hj
                    rw [setA_same] at z
                    rcases List.mem_cons.mp z with z | z
                    · subst z; exact m2.new p (.inr ⟨j, lA⟩)
                    · exact back p (sb p (.inl z))
                  · rw [setA_ne hj] at z; exact m2.new p (.inr ⟨j, z⟩)
            · exact h.elim
  · exact h.elim
end
end Dn
/-! Dn20: append, pop, insert; xs[i] = v. -/
namespace Dn
open PySem PySem.Spec L2

def mAppend (xs : List D) : List D → Option (D × List D)
  | [y] => if xs.length < sizeLine then some (.non, xs ++ [y]) else none
  | _ => none
def mPop (xs : List D) : List D → Option (D × List D)
  | [] => (xs[xs.length - 1]?).map fun y => (y, xs.dropLast)
  | _ => none
def mPopAt (xs : List D) : List D → Option (D × List D)
  | [.int i] => if -(2 ^ 63) ≤ i ∧ i < 2 ^ 63 then (seqIndex? i xs.length).bind fun k => (xs[k]?).map fun y => (y, xs.eraseIdx k) else none
  | _ => none
def mInsert (xs : List D) : List D → Option (D × List D)
  | [.int i, y] => if xs.length < sizeLine ∧ 0 ≤ i ∧ i < 2 ^ 63 then some (.non, xs.take i.toNat ++ y :: xs.drop i.toNat) else none
  | _ => none
theorem erase_last {α : Type} (l : List α) : l.eraseIdx (l.length - 1) = l.dropLast := by
  rw [List.dropLast_eq_take]
  cases l with
  | nil => rfl
  | cons x r => rw [List.eraseIdx_eq_take_drop_succ, List.drop_eq_nil_of_le (by simp), List.append_nil]
section
variable {X : Cx} {W : WX}
theorem m_append : MutR X rAppend mAppend := fun S σ H l C B xs xds vs ads rd yds Q e ox oa n h q => by
  unfold mAppend at h
  split at h
  · split at h
    · rename_i hz
      cases h
      obtain ⟨v, B1, rfl, o1, b1⟩ := oa.inv1
      have le := ox.length
      obtain ⟨E, oe, he⟩ := ox.append oa n
      exact ⟨l, xs, v, rfl, rfl, e, by omega, q _ _ E [] oe .non (by simp) fun p z => z.elim (fun z => (he p).mp z) fun z => by cases z⟩
    · cases h
  · cases h
theorem m_pop : MutR X rPop mPop := fun S σ H l C B xs xds vs ads rd yds Q e ox oa n h q => by
  unfold mPop at h
  split at h
  · obtain ⟨y, h1, h2⟩ := Option.map_eq_some_iff.mp h
    cases h2
    cases oa
    obtain ⟨v, B1, C1, g, o1, o2, h3, h4⟩ := ox.take1 h1
    have le := ox.length
    rw [← le] at g o2
    rw [erase_last] at o2
    rw [le, erase_last] at o2
    exact ⟨l, xs, v, rfl, rfl, e, g, q _ _ C1 B1 o2 o1 h3 fun p z => .inl (h4 p z.symm)⟩
  · cases h
theorem m_popAt : MutR X rPopAt mPopAt := fun S σ H l C B xs xds vs ads rd yds Q e ox oa n h q => by
  unfold mPopAt at h
  split at h
  · split at h
    · rename_i hz
      obtain ⟨k, h1, h2⟩ := Option.bind_eq_some_iff.mp h
      obtain ⟨y, h3, h4⟩ := Option.map_eq_some_iff.mp h2
      cases h4
      obtain ⟨v, B1, C1, g, o1, o2, h5, h6⟩ := ox.take1 h3
      have le := ox.length
      obtain ⟨w, B2, rfl, ow, _⟩ := oa.inv1
      have := ow.intv
      subst this
      exact ⟨l, xs, _, k, v, rfl, rfl, e, hz.1, hz.2, by rw [le]; exact h1, g, q _ _ C1 B1 o2 o1 h5 fun p z => .inl (h6 p z.symm)⟩
    · cases h
  · cases h
def rInsert : V → List V → Hp → VK → Prop := fun x vs H Q => ∃ (l : Addr) (xs : List V) (i : Int) (y : V), x = .ref l ∧ vs = [.int i, y] ∧ H l = some (.lst xs) ∧ xs.length < sizeLine ∧ 0 ≤ i ∧ i < 2 ^ 63 ∧ Q .non (upd H l (.lst (xs.take i.toNat ++ [y] ++ xs.drop i.toNat)))
theorem m_insert : MutR X rInsert mInsert := fun S σ H l C B xs xds vs ads rd yds Q e ox oa n h q => by
  unfold mInsert at h
  split at h
  · split at h
    · rename_i hz
      cases h
      obtain ⟨v, u, B1, B2, rfl, o1, o2, b1, b2⟩ := oa.inv2
      have := o1.intv
      subst this
      have le := ox.length
      obtain ⟨E, oe, he⟩ := ox.put1 (Int.toNat _) o2 fun p hp z => n p hp (b2 p z)
      refine ⟨l, xs, _, u, rfl, rfl, e, by omega, hz.2.1, hz.2.2, ?_⟩
      rw [List.append_assoc]
      exact q _ _ E [] oe .non (by simp) fun p z => z.elim (fun z => (he p z).imp id (b2 p)) fun z => by cases z
    · cases h
  · cases h
theorem de_append (i : Nat) {x : Str} {p apos cpos : Pos} {e : Expr} {fs : Env → Out (List D)} (ha : DA X W [e] fs) (hN : X.N[i]? = some x := by rfl) (hv : Vis X.env.scope x := by first | exact Or.inl rfl | exact Or.inr (Or.inl rfl) | exact Or.inr (Or.inr rfl))
    (hb : attributeBase (.Name x p) "append" X.env (eval (.Name x p) X.env) = eval (.Name x p) X.env := by rfl)
    (hfew : ((backTo cpos (starEach [e] X.env)).all (fun x => !x.1) && (backToKw cpos (keywordEach [] X.env)).all (fun x => x.1.isSome) && decide ([e].length + ([] : List Keyword).length + (if ([] : List Keyword).isEmpty then 0 else 1) < 30)) = true := by rfl)
    (hl : (apos.endLine == cpos.line) = true := by rfl) (hs : starEach [e] X.env = (false, eval e X.env) :: starEach [] X.env := by rfl) (hp : (backTo cpos (starEach [] X.env)).any (·.1) = false := by rfl) (hd : (x == ("__debug__" : Str)) = false := by decide) (hcd : (x == ("__classdict__" : Str)) = false := by decide) :
    DE X W (.Call (.Attribute (.Name x p) "append" apos) [e] [] cpos) (dMut i mAppend fs) := let ⟨_, a, b⟩ := ha; ⟨_, pe_bm PySem.F.plainAttrs_list PySem.F.slot_list_append PySem.F.type_list_append mt_append (pe_var hN hv hd hcd) a hb hfew hl hs hp, se_mut b m_append⟩
theorem de_popAt (i : Nat) {x : Str} {p apos cpos : Pos} {e : Expr} {fs : Env → Out (List D)} (ha : DA X W [e] fs) (hN : X.N[i]? = some x := by rfl) (hv : Vis X.env.scope x := by first | exact Or.inl rfl | exact Or.inr (Or.inl rfl) | exact Or.inr (Or.inr rfl))
    (hb : attributeBase (.Name x p) "pop" X.env (eval (.Name x p) X.env) = eval (.Name x p) X.env := by rfl)
    (hfew : ((backTo cpos (starEach [e] X.env)).all (fun x => !x.1) && (backToKw cpos (keywordEach [] X.env)).all (fun x => x.1.isSome) && decide ([e].length + ([] : List Keyword).length + (if ([] : List Keyword).isEmpty then 0 else 1) < 30)) = true := by rfl)
    (hl : (apos.endLine == cpos.line) = true := by rfl) (hs : starEach [e] X.env = (false, eval e X.env) :: starEach [] X.env := by rfl) (hp : (backTo cpos (starEach [] X.env)).any (·.1) = false := by rfl) (hd : (x == ("__debug__" : Str)) = false := by decide) (hcd : (x == ("__classdict__" : Str)) = false := by decide) :
    DE X W (.Call (.Attribute (.Name x p) "pop" apos) [e] [] cpos) (dMut i mPopAt fs) := let ⟨_, a, b⟩ := ha; ⟨_, pe_bm PySem.F.plainAttrs_list PySem.F.slot_list_pop PySem.F.type_list_pop mt_popAt (pe_var hN hv hd hcd) a hb hfew hl hs hp, se_mut b m_popAt⟩
theorem de_insert (i : Nat) {x : Str} {p apos cpos : Pos} {e e2 : Expr} {fs : Env → Out (List D)} (ha : DA X W [e, e2] fs) (hN : X.N[i]? = some x := by rfl) (hv : Vis X.env.scope x := by first | exact Or.inl rfl | exact Or.inr (Or.inl rfl) | exact Or.inr (Or.inr rfl))
    (hb : attributeBase (.Name x p) "insert" X.env (eval (.Name x p) X.env) = eval (.Name x p) X.env := by rfl)
    (hfew : ((backTo cpos (starEach [e, e2] X.env)).all (fun x => !x.1) && (backToKw cpos (keywordEach [] X.env)).all (fun x => x.1.isSome) && decide ([e, e2].length + ([] : List Keyword).length + (if ([] : List Keyword).isEmpty then 0 else 1) < 30)) = true := by rfl)
    (hl : (apos.endLine == cpos.line) = true := by rfl) (hs : starEach [e, e2] X.env = (false, eval e X.env) :: starEach [e2] X.env := by rfl) (hp : (backTo cpos (starEach [e2] X.env)).any (·.1) = false := by rfl) (hd : (x == ("__debug__" : Str)) = false := by decide) (hcd : (x == ("__classdict__" : Str)) = false := by decide) :
    DE X W (.Call (.Attribute (.Name x p) "insert" apos) [e, e2] [] cpos) (dMut i mInsert fs) := let ⟨_, a, b⟩ := ha; ⟨_, pe_bm PySem.F.plainAttrs_list PySem.F.slot_list_insert PySem.F.type_list_insert mt_insert (pe_var hN hv hd hcd) a hb hfew hl hs hp, se_mut b m_insert⟩
end
/-! ### xs[i] = v -/
def dPutIx (i : Nat) (fv fk : Env → Out D) : Env → SOut := fun env => liftE (fv env) fun d env1 => match mv d env1 with
  | some (d', env2) => if (ownAt env2 i).isSome = true then liftE (fk env2) fun kd env3 => match kd, ownAt env3 i with
      | .int k, some xs => match ixN xs.length k with
        | some j => if noBorL (xs.set j d') = true then .nx (env3.set i (some (.own (xs.set j d')))) else .bad
        | none => .bad
      | _, _ => .bad
    else .bad
  | none => .bad
section
variable {X : Cx} {W : WX} {fx : Nat → Bool}
theorem ixN_lt {n j : Nat} {k : Int} (h : ixN n k = some j) : j < n := by
  obtain ⟨_, _, _, h4⟩ := ixN_seq h
  by_cases z : 0 ≤ k
  · have h1 := (ixN_seq h).1
    rw [seqIndex_of z h4] at h1
    have := Option.some.inj h1
    omega
  · have h1 := (ixN_seq h).1
    rw [seqIndex_neg (by omega) (ixN_seq h).2.2.1] at h1
    have := Option.some.inj h1
    omega
theorem ss_putIx {i : Nat} {te tk : TE} {f fk : Env → Out D} (hf : SE X W te f) (hk : SE X W tk fk) : SS X W fx (tAsg te (gSub (tVar i) tk rSetL)) (dPutIx i f fk) := fun T env σ H A N I h => by
  refine hf T env σ H A _ I (h.lift fun d env1 e w v H1 A1 B1 m1 I1 o1 => ?_)
  cases em : mv d env1 with
  | none => rw [em] at w; exact w.elim
  | some q =>
    obtain ⟨d', env2⟩ := q
    rw [em] at w
    simp only at w
    obtain ⟨A2, I2, o2, n2, s2⟩ := mv_ok I1 o1 em
    split at w
    · rename_i h0
      obtain ⟨xs0, h0⟩ := Option.isSome_iff_exists.mp h0
      obtain ⟨l, vs0, C0, s0, e0, _, _, _⟩ := I2.ownAt h0
      have m2 : Moved A A2 B1 H H1 := ⟨m1.keep, fun p z => m1.new p (z.imp id fun ⟨j, z⟩ => ⟨j, s2 j p z⟩)⟩
      have hT := Moved.sepB I m2
      refine ⟨_, s0, hk (TB T B1) env2 σ H1 A2 _ I2 ?_⟩
      cases ek : fk env2 with
      | bad => rw [ek] at w; exact w
      | err x env3 =>
        rw [ek] at w
        exact fun H3 A3 m3 I3 => w σ H3 A3 (m2.trans m3 fun p z => by cases z) I3.drop .refl
      | ok kd env3 =>
        rw [ek] at w
        intro kv H3 A3 B3 m3 I3 o3
        have w' := w
        unfold liftE at w'
        simp only at w'
        split at w'
        · rename_i k xs ex
          split at w'
          · rename_i j ej
            split at w'
            · rename_i nb
              have := o3.intv
              subst this
              have I4 : EnvOk X.K X.mg (TB T B1) env3 σ H3 A3 := I3.drop
              obtain ⟨l', us, C, s', e', hA, hl, ol⟩ := I4.ownAt ex
              rw [s0] at s'
              cases s'
              have o4 : Ow X.K X.mg (SA A3 (TB T B1)) σ H3 B1 v d' := (o2.move m3 (fun p hp => .inr hp) fun i p z => I2.sep i p z).weak fun p z => z.imp .inl id
              have cA : ∀ p, p ∈ C → p ∈ A3 i := fun p z => by rw [hA]; exact List.mem_cons_of_mem _ z
              have le := ol.length
              obtain ⟨C', oc, hc⟩ := ol.set1 o4 (fun p hp z => I4.sep i p (cA p hp) (.inr z)) (ixN_lt ej)
              obtain ⟨I5, _⟩ := change (rv := .non) (rd := .non) (B' := []) I4 hT (ownAt_some ex) s0 hA hl oc .non (by simp) (fun p z => z.elim (hc p) fun z => by cases z) rfl nb
              have lA : l ∈ A3 i := by rw [hA]; exact List.mem_cons_self
              have m4 : Moved A A3 B1 H H3 := m2.trans m3 fun p z => .inl z
              refine ⟨l, us, k, j, rfl, rfl, e', by rw [le]; exact ej, w' σ _ _ ⟨fun b u e1 nb1 => ?_, fun p z => ?_⟩ (I5.weak fun p z => .inl z) .refl⟩
              · have e2 := m4.keep b u e1 nb1
                have nl : b ≠ l := fun z => by
                  subst z
                  rcases m4.new b (.inr ⟨i, lA⟩) with ⟨j, q⟩ | q
                  · exact nb1 j q
                  · rw [e1] at q; cases q
                rw [upd_ne nl]
                exact e2
              · rcases z with z | ⟨j', z⟩
                · cases z
                · by_cases hj : j' = i
                  · subst hj
                    rw [setA_same] at z
                    rcases List.mem_cons.mp z with z | z
                    · subst z; exact m4.new p (.inr ⟨j', lA⟩)
                    · rcases hc p z with z | z
                      · exact m4.new p (.inr ⟨j', cA p z⟩)
                      · exact m4.new p (.inl z)
                  · rw [setA_ne hj] at z; exact m4.new p (.inr ⟨j', z⟩)
            · exact w'.elim
          · exact w'.elim
        · exact w'.elim
    · exact w.elim
theorem ds_putIx (i : Nat) {x : Str} {px psub pos : Pos} {e ek : Expr} {f fk : Env → Out D} (he : DE X W e f) (hk : DE X W ek fk) (hN : X.N[i]? = some x := by rfl) (hv : Vis X.env.scope x := by first | exact Or.inl rfl | exact Or.inr (Or.inl rfl) | exact Or.inr (Or.inr rfl))
    (ha : ∀ v, assign (.Subscript (.Name x px) ek psub) X.env v = (do
      let ov ← holding [v] (eval (.Name x px) X.env)
      let iv ← holding [v, ov] (eval ek X.env)
      standAt psub
      holding [v, ov, iv] (setItem ov iv v)
      release [v, ov, iv] []) := by intro _; rfl)
    (hs : swapsWithSole [.Subscript (.Name x px) ek psub] e pos.line X.env = pure false := by rfl) (hw : swappedStores [.Subscript (.Name x px) ek psub] e X.env = pure none := by rfl)
    (h1 : (assignEach [.Subscript (.Name x px) ek psub] X.env).map (·.2) = [assign (.Subscript (.Name x px) ek psub) X.env] := by rfl) (hd : (x == ("__debug__" : Str)) = false := by decide) (hcd : (x == ("__classdict__" : Str)) = false := by decide) :
    DS X W fx (.Assign [.Subscript (.Name x px) ek psub] e pos) (dPutIx i f fk) := let ⟨_, a, b⟩ := he; let ⟨_, c, d⟩ := hk; ⟨_, ps_asg a (pg_sub (pe_var hN hv hd hcd) c set_list ha) hs hw h1, ss_putIx b d⟩
end
end Dn
/-! Dn21: enumerate. -/
namespace Dn
open PySem PySem.Spec L2

def enD (ds : List D) : List D := ds.mapIdx fun i d => .tup [.int (i : Nat), d]
def seqF : D → Option (List D)
  | .lst ds => some ds
  | .scr ds => some ds
  | _ => none
def dEnum (f : Env → Out D) : Env → Out (List D) := fun env => (f env).bind fun d env1 => match mv d env1 with
  | some (d', env2) => match seqF (frz d') with
    | some ds => .ok (enD ds) env2
    | none => .bad
  | none => .bad
section
variable {X : Cx} {W : WX}
theorem enD_get {ds : List D} {i : Nat} {d : D} (h : (enD ds)[i]? = some d) : ∃ x, ds[i]? = some x ∧ d = .tup [.int (i : Nat), x] := by
  unfold enD at h
  rw [List.getElem?_mapIdx] at h
  obtain ⟨x, h1, h2⟩ := Option.map_eq_some_iff.mp h
  exact ⟨x, h1, h2.symm⟩
theorem plain_en {ds : List D} (h : plainL ds = true) : plainL (enD ds) = true := by
  unfold enD
  have : ∀ (ds : List D) (f : Nat → D → D), (∀ i d, plain d = true → plain (f i d) = true) → plainL ds = true → plainL (ds.mapIdx f) = true := by
    intro ds
    induction ds with
    | nil => intro f _ _; rfl
    | cons d ds ih =>
      intro f hf h
      simp only [plainL, Bool.and_eq_true] at h
      rw [List.mapIdx_cons]
      simp only [plainL, Bool.and_eq_true]
      exact ⟨hf 0 d h.1, ih _ (fun i d => hf (i + 1) d) h.2⟩
  exact this ds _ (fun i d h => by simp [plain, plainL, h]) h
theorem itok_enum {K : PySem.W.Frag} {mg : Str → Option Value} {a : Addr} {c : D} {ds : List D} (hc : seqF c = some ds) : ItOk K mg (Ite K a) (enD ds) [.ref a] [c] := by
  intro S σ H o hS i
  obtain ⟨v, B1, e, o1, hB⟩ := o.inv1
  cases e
  have key : ∃ vs B', SqL K H a vs ∧ OwL K mg S σ H B' vs ds ∧ B' = [] := by
    cases o1 with
    | lst q l => cases hc; exact ⟨_, _, q.sq, l, rfl⟩
    | scr q l => cases hc; exact ⟨_, _, q.sq, l, rfl⟩
    | _ => cases hc
  obtain ⟨vs, B', sq, l, rfl⟩ := key
  refine ⟨fun h => ⟨_, sq, by rw [l.length]; unfold enD at h; rw [List.length_mapIdx] at h; exact h⟩, fun d e => ?_⟩
  obtain ⟨x, h1, rfl⟩ := enD_get e
  obtain ⟨v, B2, h2, h3, h4⟩ := l.get h1
  have hB2 : B2 = [] := by
    cases B2 with
    | nil => rfl
    | cons p _ => cases h4 p List.mem_cons_self
  subst hB2
  refine ⟨⟨_, v, sq, h2⟩, fun y H' ⟨t, z, e1, nt, e2, fy⟩ => ?_⟩
  subst e1 e2
  have ez := (fy _ sq).symm.trans h2
  cases ez
  have kp : ∀ b u, H b = some u → upd H t (.tup [.int (i : Nat), v]) b = some u := fun b u e => by rw [upd_ne (ne_of_none e nt)]; exact e
  refine ⟨kp, .tup (.inl ⟨fun z => hS t z nt, .inl upd_same⟩) ?_⟩
  exact OwL.cons (A := []) (B := []) (.int _) (OwL.cons (A := []) (B := []) (h3.chg (Bp := fun _ => True) ⟨fun b u e _ => kp b u e, fun _ _ z => z⟩ (fun _ _ => trivial) fun _ _ e => .inr e) .nil (by simp)) (by simp)
theorem si_enum {te : TE} {f : Env → Out D} (hf : SE X W te f) : SI X W (iEnum X.K (tCons te tNil)) (dEnum f) := fun T env σ H A R I h => by
  refine hf T env σ H A _ I ?_
  unfold dEnum at h
  cases e : f env with
  | bad => rw [e] at h; exact h
  | err x env' => rw [e] at h; exact h
  | ok d env1 =>
    rw [e, Out.bind_ok] at h
    intro v H1 A1 B1 m1 I1 o1
    cases em : mv d env1 with
    | none => rw [em] at h; exact h.elim
    | some q =>
      obtain ⟨d', env2⟩ := q
      rw [em] at h
      simp only at h
      obtain ⟨A2, I2, o2, n2, m2⟩ := froze I m1 I1 o1 em
      cases eq : seqF (frz d') with
      | none => rw [eq] at h; exact h.elim
      | some ds =>
        rw [eq] at h
        obtain ⟨hp, h⟩ := h
        have key : ∃ a vs, v = .ref a ∧ SqL X.K H1 a vs := by
          generalize frz d' = c at o2 eq
          cases o2 with
          | lst q l => exact ⟨_, _, rfl, q.sq⟩
          | scr q l => exact ⟨_, _, rfl, q.sq⟩
          | _ => cases eq
        obtain ⟨a, vs, rfl, sq⟩ := key
        exact ⟨a, vs, rfl, sq, h _ H1 A2 _ _ m2 I2 (OwL.cons (A := []) (B := []) o2 .nil (by simp)) (by simp [noBorL, plain_noBor _ (plain_frz _ n2)]) (itok_enum eq)⟩
theorem di_enum {e : Expr} {p pos tpos : Pos} {elts : List Expr} {kk : Nat} {f : Env → Out D} (hg : Gl X "enumerate") (hm : X.mg "enumerate" = none) (ha : DE X W e f) (hs : starEach [e] X.env = [(false, eval e X.env)] := by rfl) :
    DI X W (.Tuple elts kk tpos) (.Call (.Name "enumerate" p) [e] [] pos) (dEnum f) := let ⟨_, a, b⟩ := ha; ⟨_, pi_enum hg hm (pa_cons a pa_nil hs) hs, si_enum b⟩
end

/-! ### an item that is no plain thing: what it stands in is frozen where it is -/
def ixF (env : Env) (c i : D) : Out D := match fIx env [c, i] with
  | some d => .ok d env
  | none => match c with
    | .bor j => match fIx (frzAt env j) [c, i] with
      | some d => .ok d (frzAt env j)
      | none => .bad
    | _ => .bad
def ixF1 (ds : List D) (env : Env) : Out D := match ds with
  | [c, i] => ixF env c i
  | _ => .bad
def dIxF (f g : Env → Out D) : Env → Out D := fun env => (dCons f (dCons g dNil) env).bind fun ds env1 => ixF1 ds env1
section
variable {X : Cx} {W : WX}
theorem se_ixF {ta tb : TE} {r : R2} {f g : Env → Out D} (ha : SE X W ta f) (hb : SE X W tb g) (hr : PureR X (r2 r) fIx) : SE X W (tOp r ta tb) (dIxF f g) := fun T env σ H A Q I h => by
  have main : tCB (r2 r) (tCons ta (tCons tb tNil)) σ H Q := by
    refine (sl_cons ha (sl_cons hb sl_nil)) T env σ H A _ I ?_
    unfold dIxF at h
    cases e : dCons f (dCons g dNil) env with
    | bad => rw [e] at h; exact h
    | err x env' => rw [e] at h; exact h
    | ok ds env1 =>
      rw [e, Out.bind_ok] at h
      intro vs H1 A1 B1 m1 I1 o1
      unfold ixF1 at h
      split at h
      · rename_i c i
        unfold ixF at h
        split at h
        · rename_i d ef
          refine hr T env1 σ H1 A1 B1 vs _ d Q I1 o1 ef fun v H' B' k nb o => ?_
          exact h v H' A1 B' (m1.trans (Moved.grown (A := A1) k nb) fun p z => .inr (.inl z)) (I1.drop.grow k nb fun p z => o.there p z) o
        · split at h
          · rename_i j _
            split at h
            · rename_i d ef
              obtain ⟨A2, I2, s2, _, _⟩ := I1.frzAt j
              refine hr T _ σ H1 A2 B1 vs _ d Q I2 (o1.weak fun p z => z.imp id fun ⟨i, z⟩ => ⟨i, s2 i p z⟩) ef fun v H' B' k nb o => ?_
              have m2 : Moved A A2 B1 H H1 := ⟨m1.keep, fun p z => m1.new p (z.imp id fun ⟨i, z⟩ => ⟨i, s2 i p z⟩)⟩
              exact h v H' A2 B' (m2.trans (Moved.grown (A := A2) k nb) fun p z => .inr (.inl z)) (I2.drop.grow k nb fun p z => o.there p z) o
            · exact h.elim
          · exact h.elim
      · exact h.elim
  exact main
theorem de_ixF {k : Nat} {a b : Expr} {pos : Pos} {f g : Env → Out D} (Z : Sit X W k) (ha : DE X W a f) (hb : DE X W b g) (hs : PlainIx b) : DE X W (.Subscript a b pos) (dIxF f g) := by
  obtain ⟨t, p, s⟩ := ha
  obtain ⟨u, p', s'⟩ := hb
  exact ⟨_, pe_ix (ix_str.or ((ix_dict (Nat.lt_of_le_of_lt (Nat.add_le_add_left (by decide : 1 ≤ 64) _) Z.room.units)).or (ix_list.or ix_tup))) p p' hs, se_ixF s s' pr_ix⟩
end
end Dn
/-! Dn22: xs[a:b] = ys; xs[k].append(v). -/
namespace Dn
open PySem PySem.Spec L2
section
open PyProof.Rows
variable {prog : Program} {w : World} {A : Around} {E : Value → Shared → Prop} {s : Shared}
/-- where a slice without a step begins and ends -/
abbrev cutI (n : Nat) (o : Option Int) : Nat := HT.sIx n 0 o
abbrev cutJ (n : Nat) (o : Option Int) : Nat := HT.sIx n n o
theorem store_cut {l b sl : Addr} {its new : Array Value} {n n2 : Nat} {vl vu : Value} {lo hi : Option Int} {Q : Unit → Shared → Prop} (el : s.heap.get? l = some { cls := .type "list", data := .seq its n }) (eb : s.heap.get? b = some { cls := .type "list", data := .seq new n2 }) (ne : l ≠ b)
    (hs : s.heap.IsSliceOf sl vl vu .none) (p1 : IsPart vl lo) (p2 : IsPart vu hi) (le : cutI its.size lo ≤ cutJ its.size hi) (hj : cutJ its.size hi ≤ its.size) (sz : its.size + new.size ≤ sizeLine)
    (q : Q () { s with heap := s.heap.update l (Obj.mapSeq fun xs => xs.extract 0 (cutI its.size lo) ++ new ++ xs.extract (cutJ its.size hi) xs.size) }) : wpAny (model prog w) A (setItem (.ref l) (.ref sl) (.ref b)) Q E s := by
  have tl := (PySem.IsL.isList el).typeIs
  have tb := (PySem.IsL.isList eb).typeIs
  obtain ⟨o, g, c, d⟩ := id hs
  have ts : s.TypeIs (.ref sl) "slice" := ⟨o, g, c⟩
  obtain ⟨b1, b2, b3⟩ := slice_bounds lo hi its.size
  have other : Builtin.List.listSameRef (.ref l) (.ref b) = false := beq_eq_false_iff_ne.mpr ne
  have big : ((fun xs : Array Value => xs.extract 0 (cutI its.size lo) ++ new ++ xs.extract (cutJ its.size hi) xs.size) its).size ≤ sizeLine + 1 := by
    simp only [Array.size_append, Array.size_extract]; omega
  unfold setItem; try with_reducible refine wpAny_holding ?_
  first | refine wpAny_bind (wpAny_pure ?_) | skip
  refine wpAny_bind (wpAny_sequenceKey tl (by decide) (wpAny_bind (wpAny_callSpecial?_slot (name := Str.ofString "__setitem__") tl slot_list_setitem (wpAny_call_entry slot_list_setitem tl entry_list_setitem ?_ (args_list_setitem _ _ _)))))
  show wpAny _ _ (Builtin.List.listSubscript? (.ref sl) >>= _) _ _ s
  unfold Builtin.List.listSubscript?
  refine wpAny_bind (wpAny_bind (wpAny_specialOf ts slice_no_index ?_))
  simp only [Option.isNone_none, if_true]; apply wpAny_pure
  show wpAny _ _ (typeOf (.ref sl) >>= _) _ _ s
  refine wpAny_bind (wpAny_typeOf ts ?_)
  first | rw [if_neg (by decide)] | refine PySem.W.KFB.if_not (by decide) ?_
  rw [listSliceParts_eq]; refine wpAny_bind (wpAny_bind (wpAny_field g d (x := .none) rfl (wpAny_bind (wpAny_listPart .none ?_))))
  rw [if_neg (show ¬ ((rawPart none == rawInt 0) = true) from Bool.false_ne_true)]
  refine wpAny_bind (wpAny_field g d (x := vl) rfl (wpAny_bind (wpAny_listPart p1 (wpAny_bind (wpAny_field g d (x := vu) rfl (wpAny_bind (wpAny_listPart p2 (wpAny_pure ?_))))))))
  first | simp only [other, Bool.false_eq_true, if_false] | refine PySem.W.KFB.if_not other ?_ | (dsimp only; rw [if_neg (by rw [other]; exact Bool.false_ne_true)])
  refine wpAny_bind (m := Builtin.List.listAllItems (.ref b) "must assign iterable to extended slice") ?_
  unfold Builtin.List.listAllItems; refine wpAny_bind (wpAny_typeOf tb ?_)
  first | refine PySem.W.KFB.if_so (by decide) ?_ | rw [if_pos (by decide)] | simp only [beq_self_eq_true, Bool.true_or, if_true]
  unfold Builtin.List.listItems; refine wpAny_bind (wpAny_seqItems eb rfl (wpAny_pure (wpAny_bind (wpAny_bind (wpAny_seqItems el rfl (wpAny_pure ?_))))))
  have run : sliceBounds lo hi none its.size = (((cutI its.size lo : Nat) : Int), ((cutJ its.size hi : Nat) : Int), 1) := Prod.ext b1 (Prod.ext b2 b3)
  refine wpAny_bind (wpAny_of_eq ((sliceIndices_raw lo hi none its.size (by simp)).trans (congrArg (pure : Int × Int × Int → Sem (Int × Int × Int)) run)) ?_)
  show wpAny _ _ (if ((1 : Int) == 1) = true then _ else _) _ _ s; rw [if_pos (by decide)]; refine wpAny_bind (wpAny_rule ?_)
  first | simp only [notLongL sz, Bool.false_eq_true, if_false] | refine PySem.W.KFB.if_not (notLongL sz) ?_
  first | refine wpAny_bind (wpAny_pure ?_) | skip
  show wpAny _ _ (updateSeq l (fun xs => xs.extract 0 (((cutI its.size lo : Nat) : Int)).toNat ++ new ++ xs.extract (max ((cutI its.size lo : Nat) : Int) ((cutJ its.size hi : Nat) : Int)).toNat xs.size) >>= _) _ _ s
  rw [show (max ((cutI its.size lo : Nat) : Int) ((cutJ its.size hi : Nat) : Int)).toNat = cutJ its.size hi by omega, Int.toNat_natCast]
  refine wpAny_bind (wpAny_updateSeq (hz := Nat.le_trans (Nat.le_add_right _ _) sz) (_hz' := big) el rfl (wpAny_bind (wpAny_letGo ?_)))
  first | exact wpAny_bind (wpAny_pure (wpAny_pure ⟨.none, rfl, wpAny_pure q⟩)) | exact wpAny_pure ⟨.none, rfl, wpAny_pure q⟩
end
/-- xs[lo:hi] = v: xs in slot i -/
def gCut (i : Nat) (tl th : TO) : TG := fun v σ H Q => ∃ l, σ[i]? = some (some (.ref l)) ∧ tl σ H fun lo H1 => th σ H1 fun hi H2 => ∃ b xs ys, v = .ref b ∧ H2 l = some (.lst xs) ∧ H2 b = some (.lst ys) ∧ l ≠ b ∧ cutI xs.length lo ≤ cutJ xs.length hi ∧
  xs.length + ys.length ≤ sizeLine ∧ Q σ (upd H2 l (.lst (xs.take (cutI xs.length lo) ++ ys ++ xs.drop (cutJ xs.length hi))))
section
variable {X : Cx} {W : WX} {fx : Nat → Bool}
theorem pg_cut {i : Nat} {x : Str} {px p2 psub : Pos} {lo hi : Option Expr} {tl th : TO} (ho : PE X (.Name x px) (tVar i)) (hl : PO X lo tl) (hh : PO X hi th)
    (ha : ∀ v, assign (.Subscript (.Name x px) (.Slice lo hi none p2) psub) X.env v = (do
      let ov ← holding [v] (eval (.Name x px) X.env)
      let iv ← holding [v, ov] (eval (.Slice lo hi none p2) X.env)
      standAt psub
      holding [v, ov, iv] (setItem ov iv v)
      release [iv, v, ov] []) := by intro _; rfl) : PG X (.Subscript (.Name x px) (.Slice lo hi none p2) psub) (gCut i tl th) := by
  constructor
  intro pins s σ H v u Q I r h
  obtain ⟨l, s0, h⟩ := h
  rw [ha]
  refine wpAny_bind (wpAny_holding (thn (ho.run pins s σ H (fun x H1 => x = .ref l ∧ tl σ H1 fun lo H1 => th σ H1 fun hi H2 => ∃ b xs ys, v = .ref b ∧ H2 l = some (.lst xs) ∧ H2 b = some (.lst ys) ∧ l ≠ b ∧ cutI xs.length lo ≤ cutJ xs.length hi ∧
    xs.length + ys.length ≤ sizeLine ∧ Q σ (upd H2 l (.lst (xs.take (cutI xs.length lo) ++ ys ++ xs.drop (cutJ xs.length hi))))) I ⟨.ref l, s0, rfl, h⟩) ?_))
  rintro ov s1 ⟨x, H1, I1, r1, rfl, q1⟩
  cases r1
  refine wpAny_bind (wpAny_holding (wpAny_Slice (thn (hl.run pins s1 σ H1 _ I1 q1) ?_)))
  rintro vl s2 ⟨olo, H2, I2, pl, q2⟩
  refine thn (hh.run pins s2 σ H2 _ I2 q2) ?_
  rintro vu s3 ⟨ohi, H3, I3, pu, b, xs, ys, rfl, e1, e2, ne, le, sz, q⟩
  rw [evalPart_none]
  refine wpAny_pure (wpAny_bind (wpAny_standAt (wpAny_bind (wpAny_holding ?_))))
  have I4 : Inv X pins σ H3 { s3 with heap := s3.heap.push { cls := .type "slice", data := .fields #[vl, vu, .none] } } := I3.kept (t' := s3.toks) fun b ob q => Heap.get?_push_of_some _ q
  cases r
  obtain ⟨z1, its, n1, r1, l1, g1⟩ := I4.lstM e1
  obtain ⟨z2, its2, n2, r2, l2, g2⟩ := I4.lstM e2
  have hj : cutJ its.toArray.size ohi ≤ its.toArray.size := HT.sIx_le _ _ (Nat.le_refl _) _
  refine store_cut (lo := olo) (hi := ohi) g1 g2 ne (Heap.IsSliceOf.new ..) pl pu (by rw [List.size_toArray, ← l1]; exact le) hj (by rw [List.size_toArray, List.size_toArray]; omega) (wpAny_release ⟨σ, _, ?_, q⟩)
  refine I4.lset (its' := its.take (cutI xs.length olo) ++ its2 ++ its.drop (cutJ xs.length ohi)) (t' := s3.toks) e1 g1 ?_ (((r1.take _).append r2).append (r1.drop _)) ?_
  · have e9 := splice_eq its its2 (cutI xs.length olo) (cutJ xs.length ohi)
    rw [List.size_toArray] at e9 ⊢
    rw [← l1] at e9 ⊢
    exact e9
  · rw [List.length_append, List.length_append, List.length_take, List.length_drop]
    have := le
    omega
def dPutSl (i : Nat) (fv : Env → Out D) (fl fh : Env → Out (Option Int)) : Env → SOut := fun env => liftE (fv env) fun d env1 => match mv d env1 with
  | some (.own ys, env2) => if (ownAt env2 i).isSome = true then
      match fl env2 with
      | .ok lo env3 => match fh env3 with
        | .ok hi env4 => match ownAt env4 i with
          | some xs => if cutI xs.length lo ≤ cutJ xs.length hi ∧ xs.length + ys.length ≤ sizeLine ∧ noBorL (xs.take (cutI xs.length lo) ++ ys ++ xs.drop (cutJ xs.length hi)) = true then .nx (env4.set i (some (.own (xs.take (cutI xs.length lo) ++ ys ++ xs.drop (cutJ xs.length hi))))) else .bad
          | none => .bad
        | _ => .bad
      | _ => .bad
    else .bad
  | _ => .bad
theorem ss_putSl {i : Nat} {te : TE} {tl th : TO} {f : Env → Out D} {fl fh : Env → Out (Option Int)} (hf : SE X W te f) (hl : SO X W tl fl) (hh : SO X W th fh) : SS X W fx (tAsg te (gCut i tl th)) (dPutSl i f fl fh) := fun T env σ H A N I h => by
  refine hf T env σ H A _ I (h.lift fun d env1 e w v H1 A1 B1 m1 I1 o1 => ?_)
  split at w
  · rename_i ys env2 em
    obtain ⟨A2, I2, o2, n2, s2⟩ := mv_ok I1 o1 em
    split at w
    · rename_i h0
      obtain ⟨xs0, h0⟩ := Option.isSome_iff_exists.mp h0
      obtain ⟨l, vs0, C0, s0, e0, _, _, _⟩ := I2.ownAt h0
      have m2 : Moved A A2 B1 H H1 := ⟨m1.keep, fun p z => m1.new p (z.imp id fun ⟨j, z⟩ => ⟨j, s2 j p z⟩)⟩
      have hT := Moved.sepB I m2
      split at w
      · rename_i lo env3 el
        split at w
        · rename_i hi env4 eh
          split at w
          · rename_i xs ex
            split at w
            · rename_i ok
              obtain ⟨le, sz, nb⟩ := ok
              refine ⟨l, s0, hl (TB T B1) env2 σ H1 A2 _ I2 ?_⟩
              rw [el]
              intro H3 A3 m3 I3
              refine hh (TB T B1) env3 σ H3 A3 _ I3 ?_
              rw [eh]
              intro H4 A4 m4 I4
              have m34 : Moved A2 A4 [] H1 H4 := m3.trans m4 fun p z => by cases z
              obtain ⟨l', us, C, s', e', hA, hl', ol⟩ := I4.ownAt ex
              rw [s0] at s'
              cases s'
              have o4 : Ow X.K X.mg (SA A4 (TB T B1)) σ H4 B1 v (.own ys) := (o2.move m34 (fun p hp => .inr hp) fun i p z => I2.sep i p z).weak fun p z => z.imp .inl id
              cases o4 with
              | @own b By _ _ eb nby oy =>
                have cA : ∀ p, p ∈ C → p ∈ A4 i := fun p z => by rw [hA]; exact List.mem_cons_of_mem _ z
                have lA : l ∈ A4 i := by rw [hA]; exact List.mem_cons_self
                have lb : l ≠ b := fun z => by
                  subst z
                  exact I4.sep i l lA (.inr List.mem_cons_self)
                have lx := ol.length
                have ly := oy.length
                obtain ⟨P1, R1, op, orr, d1, d2⟩ := ol.split (cutI xs.length lo)
                obtain ⟨P2, R2, _, oq, _, d4⟩ := orr.split (cutJ xs.length hi - cutI xs.length lo)
                have eJ : cutI xs.length lo + (cutJ xs.length hi - cutI xs.length lo) = cutJ xs.length hi := by omega
                rw [List.drop_drop, List.drop_drop, eJ] at oq
                have sep1 : ∀ p ∈ By, p ∉ C := fun p z q => I4.sep i p (cA p q) (.inr (List.mem_cons_of_mem _ z))
                obtain ⟨E1, oe, he⟩ := op.append oy fun p z q => sep1 p q (d2 p (.inl z))
                obtain ⟨E2, of, hf2⟩ := oe.append oq fun p z q => ((he p).mp z).elim (fun z => d1 p z (d4 p (.inr q))) fun z => sep1 p z (d2 p (.inr (d4 p (.inr q))))
                have inE : ∀ p, p ∈ E2 → p ∈ C ∨ p ∈ b :: By := fun p z => by
                  rcases (hf2 p).mp z with z | z
                  · rcases (he p).mp z with z | z
                    · exact .inl (d2 p (.inl z))
                    · exact .inr (List.mem_cons_of_mem _ z)
                  · exact .inl (d2 p (.inr (d4 p (.inr z))))
                obtain ⟨I5, _⟩ := change (rv := .non) (rd := .non) (B' := []) I4 hT (ownAt_some ex) s0 hA hl' of .non (by simp) (fun p z => z.elim (inE p) fun z => by cases z) rfl nb
                have m5 : Moved A A4 (b :: By) H H4 := m2.trans m34 fun p z => .inl z
                refine ⟨b, us, _, rfl, e', eb, lb, by rw [lx]; exact le, by omega, ?_⟩
                rw [lx]
                refine w σ _ _ ⟨fun c u e1 nb1 => ?_, fun p z => ?_⟩ (I5.weak fun p z => .inl z) .refl
                · have e2 := m5.keep c u e1 nb1
                  have nl : c ≠ l := fun z => by
                    subst z
                    rcases m5.new c (.inr ⟨i, lA⟩) with ⟨j, q⟩ | q
                    · exact nb1 j q
                    · rw [e1] at q; cases q
                  rw [upd_ne nl]
                  exact e2
                · rcases z with z | ⟨j', z⟩
                  · cases z
                  · by_cases hj : j' = i
                    · subst hj
                      rw [setA_same] at z
                      rcases List.mem_cons.mp z with z | z
                      · subst z; exact m5.new p (.inr ⟨j', lA⟩)
                      · rcases inE p z with z | z
                        · exact m5.new p (.inr ⟨j', cA p z⟩)
                        · exact m5.new p (.inl z)
                    · rw [setA_ne hj] at z; exact m5.new p (.inr ⟨j', z⟩)
            · exact w.elim
          · exact w.elim
        · exact w.elim
      · exact w.elim
    · exact w.elim
  · exact w.elim
theorem ds_putSl (i : Nat) {x : Str} {px p2 psub pos : Pos} {e : Expr} {lo hi : Option Expr} {f : Env → Out D} {fl fh : Env → Out (Option Int)} (he : DE X W e f) (hl : DP X W lo fl) (hh : DP X W hi fh) (hN : X.N[i]? = some x := by rfl) (hv : Vis X.env.scope x := by first | exact Or.inl rfl | exact Or.inr (Or.inl rfl) | exact Or.inr (Or.inr rfl))
    (ha : ∀ v, assign (.Subscript (.Name x px) (.Slice lo hi none p2) psub) X.env v = (do
      let ov ← holding [v] (eval (.Name x px) X.env)
      let iv ← holding [v, ov] (eval (.Slice lo hi none p2) X.env)
      standAt psub
      holding [v, ov, iv] (setItem ov iv v)
      release [iv, v, ov] []) := by intro _; rfl)
    (hs : swapsWithSole [.Subscript (.Name x px) (.Slice lo hi none p2) psub] e pos.line X.env = pure false := by rfl) (hw : swappedStores [.Subscript (.Name x px) (.Slice lo hi none p2) psub] e X.env = pure none := by rfl)
    (h1 : (assignEach [.Subscript (.Name x px) (.Slice lo hi none p2) psub] X.env).map (·.2) = [assign (.Subscript (.Name x px) (.Slice lo hi none p2) psub) X.env] := by rfl) (hd : (x == ("__debug__" : Str)) = false := by decide) (hcd : (x == ("__classdict__" : Str)) = false := by decide) :
    DS X W fx (.Assign [.Subscript (.Name x px) (.Slice lo hi none p2) psub] e pos) (dPutSl i f fl fh) := let ⟨_, a, b⟩ := he; let ⟨_, c, d⟩ := hl; let ⟨_, c', d'⟩ := hh; ⟨_, ps_asg a (pg_cut (pe_var hN hv hd hcd) c c' ha) hs hw h1, ss_putSl b d d'⟩
end
end Dn
/-! Dn23: xs[k].append(constant). -/
namespace Dn
open PySem PySem.Spec L2

/-- arguments that only lay new things -/
def GA (K : PySem.W.Frag) (mg : Str → Option Value) (ta : TA) (ds : List D) : Prop := ∀ (σ : St) (H : Hp) (Q : List V → Hp → Prop), (∀ vs H', (∀ b o, H b = some o → H' b = some o) → (∀ S σ', (∀ p, S p → H p ≠ none) → OwL K mg S σ' H' [] vs ds) → Q vs H') → ta σ H Q
def DC (X : Cx) (es : List Expr) (ds : List D) : Prop := ∃ t, PA X es t ∧ GA X.K X.mg t ds
section
variable {X : Cx} {es : List Expr} {ds cs : List D} {i j : Nat} {pos : Pos}
theorem dc_nil : DC X [] [] := ⟨_, pa_nil, fun σ H Q h => h [] H (fun _ _ e => e) fun _ _ _ => .nil⟩
theorem dc_cons {K : PySem.W.Frag} {mg : Str → Option Value} {v : V} {d : D} {t : TA} (hv : ∀ S σ H, Ow K mg S σ H [] v d) (h : GA K mg t ds) : GA K mg (tCons (tC v) t) (d :: ds) := fun σ H Q q => h σ H _ fun vs H' kp o => q _ H' kp fun S σ' hS => OwL.cons (A := []) (B := []) (hv _ _ _) (o S σ' hS) (by simp)
theorem dc_int {n : Int} (h : DC X es ds) (hs : starEach (.Constant (.int n) j pos :: es) X.env = (false, eval (.Constant (.int n) j pos) X.env) :: starEach es X.env := by rfl) : DC X (.Constant (.int n) j pos :: es) (.int n :: ds) := let ⟨_, a, b⟩ := h; ⟨_, pa_cons pe_int a hs, dc_cons (fun _ _ _ => .int n) b⟩
theorem dc_str {n : Str} (h : DC X es ds) (hs : starEach (.Constant (.str n) j pos :: es) X.env = (false, eval (.Constant (.str n) j pos) X.env) :: starEach es X.env := by rfl) : DC X (.Constant (.str n) j pos :: es) (.str n :: ds) := let ⟨_, a, b⟩ := h; ⟨_, pa_cons pe_str a hs, dc_cons (fun _ _ _ => .str n) b⟩
theorem dc_tup {fs : List Expr} {k : Nat} (g : DC X fs cs) (hl : cs.length ≤ sizeLine) (hs : starEach [.Tuple fs k pos] X.env = [(false, eval (.Tuple fs k pos) X.env)] := by rfl) : DC X [.Tuple fs k pos] [.tup cs] := by
  obtain ⟨t, a, b⟩ := g
  refine ⟨_, pa_cons (pe_tup a) pa_nil hs, fun σ H Q q => b σ H _ fun vs H' kp o => ⟨?_, fun p np => q _ _ (fun c u e => ?_) fun S σ' hS => ?_⟩⟩
  · rw [(o (fun _ => False) [] fun _ z => z.elim).length]; exact hl
  · rw [upd_ne (ne_of_none (kp c u e) np)]; exact kp c u e
  · have nS : ¬ S p := fun z => by
      cases e : H p with
      | none => exact hS p z e
      | some u => rw [kp p u e] at np; cases np
    refine OwL.cons (A := []) (B := []) (.tup (.inl ⟨nS, .inl upd_same⟩) ((o S σ' hS).chg (Bp := fun _ => True) ⟨fun c u e _ => ?_, fun _ _ z => z⟩ (fun _ _ => trivial) fun _ _ e => .inr e)) .nil (by simp)
    rw [upd_ne (ne_of_none e np)]
    exact e
end
def dMutAt (i k : Nat) (M : List D → List D → Option (D × List D)) (ads : List D) : Env → Out D := fun env => match ownAt env i with
  | some xs => match xs[k]? with
    | some (.own ys) => match M ys ads with
      | some (rd, ys') => if noBor rd = true ∧ noBorL (xs.set k (.own ys')) = true then .ok rd (env.set i (some (.own (xs.set k (.own ys'))))) else .bad
      | none => .bad
    | _ => .bad
  | none => .bad
section
variable {X : Cx} {W : WX}
/-- slot i's thing has changed at addresses of its own -/
theorem changed {T : Addr → Prop} {env : Env} {σ : St} {H H' : Hp} {A : Nat → List Addr} {G B' : List Addr} {i : Nat} {v : V} {d d' : D} (I : EnvOk X.K X.mg T env σ H A) (ei : env[i]? = some (some d)) (si : σ[i]? = some (some v)) (kp : ∀ b o, H b = some o → b ∉ A i → H' b = some o)
    (hG : ∀ p, p ∈ G ∨ p ∈ B' → p ∈ A i ∨ H p = none) (there : ∀ p, p ∈ G ∨ p ∈ B' → H' p ≠ none) (dj : ∀ p ∈ G, p ∉ B') (n : noBor d' = true) (o : Ow X.K X.mg (SA (setA A i G) (TB T B')) σ H' G v d') :
    EnvOk X.K X.mg (TB T B') (env.set i (some d')) σ H' (setA A i G) := by
  have hi : i < env.length := (List.getElem?_eq_some_iff.mp ei).1
  have J0 := I.take ei
  have J2 := J0.beside (G := B' ++ G) (fun p hp z => I.sep i p hp z) kp (fun p hp => hG p ((List.mem_append.mp hp).symm)) fun p hp => there p ((List.mem_append.mp hp).symm)
  have J3 : EnvOk X.K X.mg (TB (TB T B') G) (env.set i none) σ H' (setA A i []) := J2.weak fun p z => by
    rcases z with (z | z) | z
    · exact .inl z
    · exact .inr (List.mem_append_left _ z)
    · exact .inr (List.mem_append_right _ z)
  refine J3.swap hi si (fun p hp z => ?_) ⟨n, o⟩
  rcases z with z | z
  · rcases hG p (.inl hp) with w | w
    · exact I.sep i p w z
    · exact I.tt p z w
  · exact dj p hp z
theorem se_mutAt {i k : Nat} {ta : TA} {ads : List D} {M : List D → List D → Option (D × List D)} {r : V → List V → Hp → VK → Prop} {R : R2} (hs : GA X.K X.mg ta ads) (hr : MutR X r M) (hR : ∀ a xs v H Q, SqL X.K H a xs → xs[k]? = some v → Q v H → R (.ref a) (.int (k : Nat)) H Q) :
    SE X W (tBM X.K "list" r (tOp R (tVar i) (tC (.int (k : Nat)))) ta) (dMutAt i k M ads) := fun T env σ H A Q I h => by
  unfold dMutAt at h
  split at h
  · rename_i xs ex
    split at h
    · rename_i ys ey
      split at h
      · rename_i rd ys' eM
        split at h
        · rename_i nb
          obtain ⟨l, us, C, s0, e0, hA, hl, ol⟩ := I.ownAt ex
          obtain ⟨v, B1, C1, ev, ov, oc, h1, h2⟩ := ol.take1 ey
          cases ov with
          | @own l2 C2 zs _ e2 n2 oz =>
            have lA : l ∈ A i := by rw [hA]; exact List.mem_cons_self
            have cA : ∀ p, p ∈ C → p ∈ A i := fun p z => by rw [hA]; exact List.mem_cons_of_mem _ z
            have l2C : l2 ∈ C := h2 l2 (.inl List.mem_cons_self)
            have ll : l ≠ l2 := fun z => hl (z ▸ l2C)
            refine ⟨.ref l, s0, hR l us _ H _ (.inl (.inl e0)) ev ⟨.inl ⟨rfl, zs, .inl (.inl e2)⟩, hs σ H _ fun vs H1 kp oa => ?_⟩⟩
            have I1 : EnvOk X.K X.mg T env σ H1 A := I.more kp
            have oa1 := oa (SA A T) σ fun p z => I.there p z
            have up : ∀ {E : List Addr} {ws : List V} {es : List D}, OwL X.K X.mg (SA A T) σ H E ws es → OwL X.K X.mg (SA A T) σ H1 E ws es := fun o => o.chg (Bp := fun _ => True) ⟨fun b u e _ => kp b u e, fun _ _ z => z⟩ (fun _ _ => trivial) fun _ _ e => .inr e
            refine hr _ σ H1 l2 C2 [] zs ys vs ads rd ys' Q (kp _ _ e2) (up oz) oa1 (by simp) eM fun ys2 rv C' B' oy orr dj sb => ?_
            have sb' : ∀ p, p ∈ C' ∨ p ∈ B' → p ∈ C2 := fun p z => (sb p z).elim id fun z => by cases z
            have inC : ∀ p, p ∈ C2 → p ∈ C := fun p z => h2 p (.inl (List.mem_cons_of_mem _ z))
            have l2C' : l2 ∉ C' := fun z => n2 (sb' l2 (.inl z))
            have l2B' : l2 ∉ B' := fun z => n2 (sb' l2 (.inr z))
            have l2C1 : l2 ∉ C1 := fun z => h1 l2 z List.mem_cons_self
            have kpu : ∀ b o, H1 b = some o → b ≠ l2 → upd H1 l2 (.lst ys2) b = some o := fun b o e ne => by rw [upd_ne ne]; exact e
            have l2S : SA A T l2 := .inr ⟨i, cA _ l2C⟩
            have c : ∀ (S' : Addr → Prop) (G : List Addr), l2 ∉ G → (∀ p, S' p → SA A T p) → Chg (SA A T) S' (fun b => b ∈ G) H1 (upd H1 l2 (.lst ys2)) := fun S' G nG sub => ⟨fun b u e z => kpu b u e fun q => by
              subst q
              exact z.elim (fun z => z l2S) nG, fun b _ z => sub b z⟩
            have own2 : Ow X.K X.mg (SA A T) σ (upd H1 l2 (.lst ys2)) (l2 :: C') (.ref l2) (.own ys') := .own upd_same l2C' (oy.chg (c _ C' l2C' fun _ z => z) (fun _ z => z) fun _ _ e => .inr e)
            obtain ⟨E, oe, he⟩ := ((up oc).chg (c _ C1 l2C1 fun _ z => z) (fun _ z => z) fun _ _ e => .inr e).put1 k own2 fun p hp z => by
              rcases List.mem_cons.mp z with z | z
              · subst z; exact l2C1 hp
              · exact h1 p hp (List.mem_cons_of_mem _ (sb' p (.inl z)))
            have hk : k < xs.length := (List.getElem?_eq_some_iff.mp ey).1
            have hk2 : k < us.length := (List.getElem?_eq_some_iff.mp ev).1
            have pe : ∀ {α : Type} (l : List α) (x : α), k < l.length → (l.eraseIdx k).take k ++ x :: (l.eraseIdx k).drop k = l.set k x := fun l x h => by
              rw [List.eraseIdx_eq_take_drop_succ, List.set_eq_take_append_cons_drop, if_pos h, List.take_append_of_le_length (by rw [List.length_take]; omega), List.take_take, Nat.min_self,
                List.drop_append_of_le_length (by rw [List.length_take]; omega), List.drop_eq_nil_of_le (by rw [List.length_take]; omega), List.nil_append]
            rw [pe us _ hk2, pe xs _ hk] at oe
            have same : us.set k (.ref l2) = us := by
              apply List.ext_getElem?
              intro j
              rw [List.getElem?_set]
              split
              · rename_i ej
                subst ej
                first | exact ev.symm | simp [ev, hk2]
              · rfl
            rw [same] at oe
            have inE : ∀ p, p ∈ E → p ∈ C := fun p z => by
              rcases he p z with z | z
              · exact h2 p (.inr z)
              · rcases List.mem_cons.mp z with z | z
                · subst z; exact l2C
                · exact inC p (sb' p (.inl z))
            have lE : l ∉ E := fun z => hl (inE l z)
            have subS : ∀ p, SA (setA A i (l :: E)) (TB T B') p → SA A T p := fun p z => by
              rcases z with (z | z) | ⟨j, z⟩
              · exact .inl z
              · exact .inr ⟨i, cA p (inC p (sb' p (.inr z)))⟩
              · by_cases hj : j = i
                · subst hj
                  rw [setA_same] at z
                  rcases List.mem_cons.mp z with z | z
                  · subst z; exact .inr ⟨j, lA⟩
                  · exact .inr ⟨j, cA p (inE p z)⟩
                · rw [setA_ne hj] at z; exact .inr ⟨j, z⟩
            have thr : ∀ p, H p ≠ none → upd H1 l2 (.lst ys2) p ≠ none := fun p z => by
              by_cases e : p = l2
              · subst e; rw [upd_same]; simp
              · cases e3 : H p with
                | none => exact absurd e3 z
                | some u => rw [kpu p u (kp p u e3) e]; simp
            have inA : ∀ p, p ∈ l :: E ∨ p ∈ B' → p ∈ A i := fun p z => by
              rcases z with z | z
              · rcases List.mem_cons.mp z with z | z
                · subst z; exact lA
                · exact cA p (inE p z)
              · exact cA p (inC p (sb' p (.inr z)))
            have I5 := changed (B' := B') I1 (ownAt_some ex) s0 (fun b o e nb => kpu b o e fun z => nb (z ▸ cA _ l2C)) (fun p z => .inl (inA p z)) (fun p z => thr p (I.there p (.inr ⟨i, inA p z⟩))) (fun p hp z => by
              rcases List.mem_cons.mp hp with q | q
              · subst q; exact hl (inC p (sb' p (.inr z)))
              · rcases he p q with w | w
                · exact h1 p w (List.mem_cons_of_mem _ (sb' p (.inr z)))
                · rcases List.mem_cons.mp w with w | w
                  · subst w; exact l2B' z
                  · exact dj p w z) (by simpa [noBor] using nb.2)
              (.own (kpu l _ (kp _ _ e0) ll) lE (oe.weak subS))
            refine h rv _ _ B' ⟨fun b u e nb1 => kpu b u (kp b u e) fun z => nb1 i (z ▸ cA _ l2C), fun p z => .inl ?_⟩ I5 (orr.chg (c _ B' l2B' subS) (fun _ z => z) fun _ _ e => .inr e)
            rcases z with z | ⟨j, z⟩
            · exact ⟨i, inA p (.inr z)⟩
            · by_cases hj : j = i
              · subst hj
                rw [setA_same] at z
                exact ⟨j, inA p (.inl z)⟩
              · rw [setA_ne hj] at z
                exact ⟨j, z⟩
        · exact h.elim
      · exact h.elim
    · exact h.elim
  · exact h.elim
theorem de_appendAt (i k : Nat) {x : Str} {px pk ps apos cpos : Pos} {j : Nat} {e : Expr} {ads : List D} (ha : DC X [e] ads) (hN : X.N[i]? = some x := by rfl) (hv : Vis X.env.scope x := by first | exact Or.inl rfl | exact Or.inr (Or.inl rfl) | exact Or.inr (Or.inr rfl))
    (hp : PlainIx (.Constant (.int (k : Nat)) j pk) := by exact fun _ _ => rfl)
    (hb : attributeBase (.Subscript (.Name x px) (.Constant (.int (k : Nat)) j pk) ps) "append" X.env (eval (.Subscript (.Name x px) (.Constant (.int (k : Nat)) j pk) ps) X.env) = eval (.Subscript (.Name x px) (.Constant (.int (k : Nat)) j pk) ps) X.env := by rfl)
    (hfew : ((backTo cpos (starEach [e] X.env)).all (fun x => !x.1) && (backToKw cpos (keywordEach [] X.env)).all (fun x => x.1.isSome) && decide ([e].length + ([] : List Keyword).length + (if ([] : List Keyword).isEmpty then 0 else 1) < 30)) = true := by rfl)
    (hl : (apos.endLine == cpos.line) = true := by rfl) (hs : starEach [e] X.env = (false, eval e X.env) :: starEach [] X.env := by rfl) (hpp : (backTo cpos (starEach [] X.env)).any (·.1) = false := by rfl) (hd : (x == ("__debug__" : Str)) = false := by decide) (hcd : (x == ("__classdict__" : Str)) = false := by decide) :
    DE X W (.Call (.Attribute (.Subscript (.Name x px) (.Constant (.int (k : Nat)) j pk) ps) "append" apos) [e] [] cpos) (dMutAt i k mAppend ads) := by
  obtain ⟨t, a, b⟩ := ha
  exact ⟨_, pe_bm PySem.F.plainAttrs_list PySem.F.slot_list_append PySem.F.type_list_append mt_append (pe_ix ix_list (pe_var hN hv hd hcd) pe_int hp) a hb hfew hl hs hpp, se_mutAt b m_append fun p xs v H Q sq g q => ⟨p, xs, _, v, rfl, rfl, sq, atI_nat g, q⟩⟩
end
end Dn
/-! Dn24: what is known of the module's defs; the law's end. -/
namespace Dn
open PySem PySem.Spec L2

section
variable {P : Program} {w : World} {K : PySem.W.Frag} {mg : Str → Option Value} {base : Heap}
theorem cal_mk {x : Str} {st : Stmt} {f : Addr} {fd : FuncData} {N ps : List Str} {k m n : Nat} {fx : Nat → Bool} {g : Env → SOut} {dvs : List V} (F : FunD K x x (defArgs st) (defBody st) (defScope st) dvs [] f fd) (hf : mg x = some (.ref f)) (b : Binds K fd ps []) (S : FnScope N ps (defScope st)) (hm : N.length = m) (hn : ps.length = n)
    (hb : ∀ cdv A outer s H E, Sit (cxD P w K mg base N x (defScope st) f cdv A outer s H E) (wDef E) k → DSs (cxD P w K mg base N x (defScope st) f cdv A outer s H E) (wDef E) fx (defBody st) g) : Cal P w K mg base (k + 1) n x st dvs ps (fnD m n fx g) :=
  ⟨f, fd, fnG F S hm hn hb, hf, F, b⟩
/-- the same, said by another data function -/
theorem Cal.as {k n : Nat} {x : Str} {st : Stmt} {dvs : List V} {ps : List Str} {F F' : List D → Out D} (c : Cal P w K mg base k n x st dvs ps F) (e : ∀ ds, ds.length = n → F' ds ≠ .bad → F ds = F' ds) : Cal P w K mg base k n x st dvs ps F' :=
  let ⟨f, fd, a, b, d, g⟩ := c.ex; ⟨f, fd, a.as e, b, d, g⟩
end
/-- no defaults -/
theorem fun_d {K : PySem.W.Frag} {x : Str} {st : Stmt} {f : Addr} {oc : Value} {od an : Option Addr} {osl : Array (Option Value)} {kV doc pm cdv ct : Value} (l : K.lookup f = some ⟨oc, od, .func (PySem.W.fnOf x x (defArgs st) (defBody st) (defScope st) .none kV doc pm an cdv ct), osl⟩)
    (c : PySem.W.codeIn K cdv x = true) (k : PySem.W.keepIn K (.ref f) = true) : FunD K x x (defArgs st) (defBody st) (defScope st) [] [] f (PySem.W.fnOf x x (defArgs st) (defBody st) (defScope st) .none kV doc pm an cdv ct) :=
  ⟨⟨oc, od, .none, kV, doc, pm, an, cdv, ct, osl, rfl, l, c, .inl ⟨rfl, rfl⟩, .inl rfl⟩, k⟩
/-- one default: None -/
theorem fun_dn {K : PySem.W.Frag} {x : Str} {st : Stmt} {f T : Addr} {oc : Value} {od an : Option Addr} {osl : Array (Option Value)} {kV doc pm cdv ct : Value} {oT : Obj} {n : Nat} (l : K.lookup f = some ⟨oc, od, .func (PySem.W.fnOf x x (defArgs st) (defBody st) (defScope st) (.ref T) kV doc pm an cdv ct), osl⟩)
    (c : PySem.W.codeIn K cdv x = true) (k : PySem.W.keepIn K (.ref f) = true) (lT : K.lookup T = some oT) (dT : oT.data = .seq #[Value.none] n) : FunD K x x (defArgs st) (defBody st) (defScope st) [.non] [] f (PySem.W.fnOf x x (defArgs st) (defBody st) (defScope st) (.ref T) kV doc pm an cdv ct) :=
  ⟨⟨oc, od, .ref T, kV, doc, pm, an, cdv, ct, osl, rfl, l, c, .inr ⟨by simp, T, oT, [Value.none], n, rfl, lT, dT, .cons rfl .nil⟩, .inl rfl⟩, k⟩

/-- a def of the module, as its callers need it -/
structure DefAt (K : PySem.W.Frag) (mg : Str → Option Value) (x : Str) (st : Stmt) (dvs : List V) (ps : List Str) : Prop where
  ex : ∃ (f : Addr) (fd : FuncData), FunD K x x (defArgs st) (defBody st) (defScope st) dvs [] f fd ∧ mg x = some (.ref f) ∧ Binds K fd ps []
theorem cal_at {P : Program} {w : World} {K : PySem.W.Frag} {mg : Str → Option Value} {base : Heap} {x : Str} {st : Stmt} {N ps : List Str} {k m n : Nat} {fx : Nat → Bool} {g : Env → SOut} {dvs : List V} (d : DefAt K mg x st dvs ps) (S : FnScope N ps (defScope st)) (hm : N.length = m) (hn : ps.length = n)
    (hb : ∀ f cdv A outer s H E, Sit (cxD P w K mg base N x (defScope st) f cdv A outer s H E) (wDef E) k → DSs (cxD P w K mg base N x (defScope st) f cdv A outer s H E) (wDef E) fx (defBody st) g) : Cal P w K mg base (k + 1) n x st dvs ps (fnD m n fx g) :=
  let ⟨f, fd, F, hf, b⟩ := d.ex; cal_mk F hf b S hm hn (hb f)
theorem def_at {K : PySem.W.Frag} {h : Heap} {mg : Str → Option Value} {x : Str} {st : Stmt} {ps : List Str} {f : Addr} {oc : Value} {od an : Option Addr} {osl : Array (Option Value)} {kV doc pm cdv ct : Value} (kin : K.In h) (gl : h.Ns mainGlobals mg) (a : PySem.W.nsIn K mainGlobals x = some (some (.ref f)))
    (l : K.lookup f = some ⟨oc, od, .func (PySem.W.fnOf x x (defArgs st) (defBody st) (defScope st) .none kV doc pm an cdv ct), osl⟩) (c : PySem.W.codeIn K cdv x = true) (k : PySem.W.keepIn K (.ref f) = true)
    (hb : ∀ (kV doc pm : Value) (an : Option Addr) (cdv ct : Value) (us : List Value), us.length = ps.length → bindArgs (PySem.W.fnOf x x (defArgs st) (defBody st) (defScope st) .none kV doc pm an cdv ct) ⟨us, []⟩ = pure (ps.zip us)) : DefAt K mg x st [] ps :=
  ⟨f, _, fun_d l c k, PySem.W.mg_of kin gl a, (fun_d l c k).bindsN hb⟩
theorem def_atn {K : PySem.W.Frag} {h : Heap} {mg : Str → Option Value} {x : Str} {st : Stmt} {ps : List Str} {f T : Addr} {oc : Value} {od an : Option Addr} {osl : Array (Option Value)} {kV doc pm cdv ct : Value} {oT : Obj} {n : Nat} (kin : K.In h) (gl : h.Ns mainGlobals mg) (a : PySem.W.nsIn K mainGlobals x = some (some (.ref f)))
    (l : K.lookup f = some ⟨oc, od, .func (PySem.W.fnOf x x (defArgs st) (defBody st) (defScope st) (.ref T) kV doc pm an cdv ct), osl⟩) (c : PySem.W.codeIn K cdv x = true) (k : PySem.W.keepIn K (.ref f) = true) (lT : K.lookup T = some oT) (dT : oT.data = .seq #[Value.none] n)
    (hb : ∀ (T : Addr) (kV doc pm : Value) (an : Option Addr) (cdv ct : Value) (us its : List Value), us.length = ps.length → its.length = 1 →
      ∃ k, bindArgs (PySem.W.fnOf x x (defArgs st) (defBody st) (defScope st) (.ref T) kV doc pm an cdv ct) ⟨us, []⟩ = seqItems? (.ref T) >>= k ∧ k (some its.toArray) = pure (ps.zip (us ++ its.drop 1))) : DefAt K mg x st [.non] ps := by
  have F := fun_dn l c k lT dT
  obtain ⟨ds, r, b⟩ := F.binds1 (ps := ps) ps.length 1 (by simp) (by simp) hb
  cases r
  exact ⟨f, _, F, PySem.W.mg_of kin gl a, b⟩
/-- a name of the module's top that holds a flat value -/
theorem de_glob {X : Cx} {W : WX} {x : Str} {v : V} {d : D} {u : Value} {pos : Pos} (hm : X.mg x = some u) (r : RelV v u) (ho : ∀ K mg S σ H, Ow K mg S σ H [] v d) (hg : Gl X x := by rfl) (hd : (x == ("__debug__" : Str)) = false := by decide) : DE X W (.Name x pos) (dC d) := ⟨_, pe_glob hg hm r hd, se_c ho⟩
theorem de_gstr {X : Cx} {W : WX} {x z : Str} {pos : Pos} (h : ∃ t, X.mg x = some (.str z t)) (hg : Gl X x := by rfl) (hd : (x == ("__debug__" : Str)) = false := by decide) : DE X W (.Name x pos) (dC (.str z)) := let ⟨t, e⟩ := h; de_glob (v := .str z) e ⟨t, rfl⟩ (fun _ _ _ _ _ => .str z) hg hd
theorem de_gint {X : Cx} {W : WX} {x : Str} {z : Int} {pos : Pos} (h : ∃ t, X.mg x = some (.int z t)) (hg : Gl X x := by rfl) (hd : (x == ("__debug__" : Str)) = false := by decide) : DE X W (.Name x pos) (dC (.int z)) := let ⟨t, e⟩ := h; de_glob (v := .int z) e ⟨t, rfl⟩ (fun _ _ _ _ _ => .int z) hg hd

/-! ### the law -/
/-- the script alone is tracked, if it is no object of the module -/
def scrH (K : PySem.W.Frag) (a : Addr) (o : Obj) (vs : List V) : Hp := fun b => if b = a ∧ K.lookup a = none then some (.frz o (.lst vs)) else none
theorem law_G {P : Program} {w : World} {K : PySem.W.Frag} {mg mb : Str → Option Value} {k : Nat} {fa a : Addr} {fd : FuncData} {x : Str} {G : List D → Out D} {s : Shared} {vs : List Value} {ns : List Int} (kin : K.In s.heap) (gl : s.heap.Ns mainGlobals mg) (bl : s.heap.Ns builtinsNs mb) (bb : ∀ x : Str, x ≠ "__name__" → mb x = bootBuiltins x)
    (lim : s.heap.NoLimit) (hg : s.gens = #[]) (ha : s.heap.get? a = some { cls := .type "list", data := .seq vs.toArray }) (hi : PyProof.Rows.IntsAre vs ns) (hl : ns.length ≤ sizeLine) (hr : Room k callerA) (F : ∀ base : Heap, K.In base → base.Ns mainGlobals mg → FnG P w K mg base k fa fd [x] (spD K mg 1 G))
    (bi : ∀ (s : Shared) (u : Value), BindsTo s fd ⟨[u], []⟩ [(x, u)]) (ok : ∃ e, G [.scr (ns.map D.int)] = .ok (.bl true) e) : codeAny (model P w) callerA (.call (.ref fa) ⟨[.ref a], []⟩) (fun r t => r = .ok (.ret (.bool true)) ∧ OldK s.heap t.heap ∧ t.os = s.os ∧ PyProof.Rows.AllBare t.gens) s := by
  have rv := vals_ints hi
  have lv := hi.length
  let o : Obj := { cls := .type "list", data := .seq vs.toArray }
  let H := scrH K a o (ns.map V.int)
  have at1 : ∀ b u, H b = some u → b = a ∧ K.lookup a = none ∧ u = .frz o (.lst (ns.map V.int)) := fun b u e => by
    by_cases c : b = a ∧ K.lookup a = none
    · have e' := (if_pos c).symm.trans e
      cases e'
      exact ⟨c.1, c.2, rfl⟩
    · have e' := (if_neg c).symm.trans e
      cases e'
  have free : ∀ b q, s.heap.get? b = some q → (b = a → K.lookup a = none → False) → H b = none := fun b q e n => if_neg fun c => n c.1 c.2
  have dic : ∀ {b : Addr} {q : Obj} {es : Array DictEntry} {ep : Nat}, s.heap.get? b = some q → q.data = .dict es ep → H b = none := fun {b q es ep} e d => free b q e fun z _ => by
    subst z
    rw [ha] at e
    cases e
    cases d
  have hn : ∀ {b : Addr} {m : Str → Option Value}, s.heap.Ns b m → (hidT s.heap H).Ns b m := fun {b m} ⟨q, es, ep, e, d, r⟩ => ⟨q, es, ep, hidT_get e (dic e d), d, r⟩
  have hkin : K.In (hidT s.heap H) := fun b q e => hidT_get (kin b q e) (free b q (kin b q e) fun z c => by
    subst z
    rw [e] at c
    cases c)
  obtain ⟨mc, l1, l2⟩ := lim
  have hok : HOk P w H s.heap := fun b u e => by
    obtain ⟨rfl, _, rfl⟩ := at1 b u e
    exact ⟨ha, by rw [List.length_map]; exact hl, vs, _, rv, ha⟩
  have en : Env0 P w K mg (hidT s.heap H) callerA [] s H := ⟨rfl, ⟨hkin, hn gl, ⟨mb, hn bl, bb⟩, ⟨mc, hn l1, l2⟩⟩, fun b q e => of_hidT e, Nat.le_of_eq (hidT_size _ _), trivial, (fun b z => by cases z), hok, .of_eq hg⟩
  have intsO : ∀ (S : Addr → Prop) (σ : St) (l : List Int), OwL K mg S σ H [] (l.map V.int) (l.map D.int) := fun S σ l => by
    induction l with
    | nil => exact .nil
    | cons i l ih => exact OwL.cons (A := []) (B := []) (.int i) ih (by simp)
  have sc : ScL K (fun _ => False) H a (ns.map V.int) := by
    cases c : K.lookup a with
    | none => exact .inl ⟨id, o, if_pos ⟨rfl, c⟩⟩
    | some q =>
      have e := kin a q c
      rw [ha] at e
      cases e
      exact .inr ⟨_, vs.toArray, _, c, rfl, rfl, rfl, by rw [List.size_toArray, lv]; exact hl, by simpa using rv⟩
  have I0 : EnvOk K mg (fun _ => False) ([D.scr (ns.map D.int)].map some) ([V.ref a].map some) H (fun _ => []) := OwL.envOk (σ := []) (OwL.cons (A := []) (B := []) (.scr sc (intsO _ _ ns)) .nil (by simp)) (by
    have : ∀ l : List Int, noBorL (l.map D.int) = true := fun l => plainL_noBor _ (plain_ints l)
    simp [noBorL, noBor, this]) fun p z => z.elim
  obtain ⟨env', hG⟩ := ok
  have sp : spD K mg 1 G [.ref a] H (fun v _ => v = .bl true) fun _ _ _ => False := ⟨rfl, _, _, _, I0, by
    rw [hG]
    intro v H' A' B m I o nb
    cases o
    rfl⟩
  refine codeAny_mono ((F _ hkin (hn gl)).run callerA [] s H ⟨[.ref a], []⟩ [.ref a] [.ref a] _ _ rfl hr en (bi s (.ref a)) (.cons rfl .nil) sp) fun r t z => ?_
  rcases r with e | (_ | _ | _ | u)
  · obtain ⟨_, _, _, _, _, _, _, _, _, _, _, _, z⟩ := z
    exact z.elim
  · exact False.elim z
  · exact False.elim z
  · exact False.elim z
  obtain ⟨v, H', os, bare, un, ok', r', q⟩ := z
  have q' : v = .bl true := q
  subst q'
  obtain rfl : u = Value.bool true := r'
  refine ⟨rfl, OldK.of_keep fun b q e => ?_, os, bare⟩
  cases c : H b with
  | none => exact un.keep b q e c (by intro z; cases z) (by simp)
  | some u =>
    obtain ⟨rfl, _, rfl⟩ := at1 b u c
    have f2 := un.frzs b o _ c
    obtain ⟨e1, _⟩ := hok b _ c
    obtain ⟨e2, _⟩ := ok' b _ f2
    rw [e] at e1
    cases e1
    exact e2
theorem walk_G {l : PySem.W.OpenLaw} {n k : Nat} {q : Program} {loose : List Str} {XP : (Str → Option Value) → Heap → Prop} {YP : World → Heap → Prop} {d : DefRec} {K : Params → PySem.W.Frag} {x : Str} {G : List D → Out D} (hn : l.most = some n) (hn2 : n ≤ sizeLine) (hdf : d.params.defaults = []) (hr : Room k callerA)
    (hY : ∀ (w : World) (h : Heap), YP w h → (K w.params).In h) (F : ∀ (w : World) (mg : Str → Option Value) (fa : Addr) (h : Heap), (K w.params).In h → h.Ns mainGlobals mg → mg d.name = some (.ref fa) →
      ∃ fd : FuncData, (∀ (s : Shared) (u : Value), BindsTo s fd ⟨[u], []⟩ [(x, u)]) ∧ ∀ base : Heap, (K w.params).In base → base.Ns mainGlobals mg → FnG l.prog w (K w.params) mg base k fa fd [x] (spD (K w.params) mg 1 G))
    (hG : ∀ ns : List Int, ns.length ≤ n → ∃ e, G [.scr (ns.map D.int)] = .ok (.bl true) e) : PySem.W.WalkO q loose XP YP l.row.toRowW d [] (fun f vs => PySem.call f vs) := by
  refine Att.attach_call hn hdf fun w s₀ s₁ mg mb fa o pm cd doc a vs ns W Y ho hd hcd hmg hobj hints hlen hg => ?_
  have kx := hY w _ Y
  obtain ⟨fd, b, f⟩ := F w mg fa _ kx W.T.g hmg
  exact law_G kx W.T.g W.T.b W.T.builtins W.T.nolimit hg hobj hints (Nat.le_trans hlen hn2) hr f b (hG ns hlen)
end Dn
/-! Dn25: the data functions by simp. -/
namespace Dn
open PySem PySem.Spec L2
section
variable (env : Env)
@[simp] theorem plain_non  : plain .non = true := (Eq.refl _).trans (Eq.refl _)
@[simp] theorem noBor_non  : noBor .non = true := (Eq.refl _).trans (Eq.refl _)
@[simp] theorem frz_non  : frz .non = .non := (Eq.refl _).trans (Eq.refl _)
@[simp] theorem bors_non  : bors .non = [] := (Eq.refl _).trans (Eq.refl _)
@[simp] theorem plain_bl (b : Bool) : plain (.bl b) = true := (Eq.refl _).trans (Eq.refl _)
@[simp] theorem noBor_bl (b : Bool) : noBor (.bl b) = true := (Eq.refl _).trans (Eq.refl _)
@[simp] theorem frz_bl (b : Bool) : frz (.bl b) = (.bl b) := (Eq.refl _).trans (Eq.refl _)
@[simp] theorem bors_bl (b : Bool) : bors (.bl b) = [] := (Eq.refl _).trans (Eq.refl _)
@[simp] theorem plain_int (i : Int) : plain (.int i) = true := (Eq.refl _).trans (Eq.refl _)
@[simp] theorem noBor_int (i : Int) : noBor (.int i) = true := (Eq.refl _).trans (Eq.refl _)
@[simp] theorem frz_int (i : Int) : frz (.int i) = (.int i) := (Eq.refl _).trans (Eq.refl _)
@[simp] theorem bors_int (i : Int) : bors (.int i) = [] := (Eq.refl _).trans (Eq.refl _)
@[simp] theorem plain_str (x : Str) : plain (.str x) = true := (Eq.refl _).trans (Eq.refl _)
@[simp] theorem noBor_str (x : Str) : noBor (.str x) = true := (Eq.refl _).trans (Eq.refl _)
@[simp] theorem frz_str (x : Str) : frz (.str x) = (.str x) := (Eq.refl _).trans (Eq.refl _)
@[simp] theorem bors_str (x : Str) : bors (.str x) = [] := (Eq.refl _).trans (Eq.refl _)
@[simp] theorem plain_tup (xs : List D) : plain (.tup xs) = plainL xs := (Eq.refl _).trans (Eq.refl _)
@[simp] theorem noBor_tup (xs : List D) : noBor (.tup xs) = noBorL xs := (Eq.refl _).trans (Eq.refl _)
@[simp] theorem frz_tup (xs : List D) : frz (.tup xs) = .tup (frzL xs) := (Eq.refl _).trans (Eq.refl _)
@[simp] theorem bors_tup (xs : List D) : bors (.tup xs) = borsL xs := (Eq.refl _).trans (Eq.refl _)
@[simp] theorem plain_lst (xs : List D) : plain (.lst xs) = plainL xs := (Eq.refl _).trans (Eq.refl _)
@[simp] theorem noBor_lst (xs : List D) : noBor (.lst xs) = noBorL xs := (Eq.refl _).trans (Eq.refl _)
@[simp] theorem frz_lst (xs : List D) : frz (.lst xs) = .lst (frzL xs) := (Eq.refl _).trans (Eq.refl _)
@[simp] theorem bors_lst (xs : List D) : bors (.lst xs) = borsL xs := (Eq.refl _).trans (Eq.refl _)
@[simp] theorem plain_own (xs : List D) : plain (.own xs) = false := (Eq.refl _).trans (Eq.refl _)
@[simp] theorem noBor_own (xs : List D) : noBor (.own xs) = noBorL xs := (Eq.refl _).trans (Eq.refl _)
@[simp] theorem frz_own (xs : List D) : frz (.own xs) = .lst (frzL xs) := (Eq.refl _).trans (Eq.refl _)
@[simp] theorem bors_own (xs : List D) : bors (.own xs) = borsL xs := (Eq.refl _).trans (Eq.refl _)
@[simp] theorem plain_scr (xs : List D) : plain (.scr xs) = plainL xs := (Eq.refl _).trans (Eq.refl _)
@[simp] theorem noBor_scr (xs : List D) : noBor (.scr xs) = noBorL xs := (Eq.refl _).trans (Eq.refl _)
@[simp] theorem frz_scr (xs : List D) : frz (.scr xs) = .scr (frzL xs) := (Eq.refl _).trans (Eq.refl _)
@[simp] theorem bors_scr (xs : List D) : bors (.scr xs) = borsL xs := (Eq.refl _).trans (Eq.refl _)
@[simp] theorem plain_dic (ks : List Key) (xs : List D) : plain (.dic ks xs) = plainL xs := (Eq.refl _).trans (Eq.refl _)
@[simp] theorem noBor_dic (ks : List Key) (xs : List D) : noBor (.dic ks xs) = noBorL xs := (Eq.refl _).trans (Eq.refl _)
@[simp] theorem frz_dic (ks : List Key) (xs : List D) : frz (.dic ks xs) = .dic ks (frzL xs) := (Eq.refl _).trans (Eq.refl _)
@[simp] theorem bors_dic (ks : List Key) (xs : List D) : bors (.dic ks xs) = borsL xs := (Eq.refl _).trans (Eq.refl _)
@[simp] theorem plain_odic (ks : List Key) (xs : List D) : plain (.odic ks xs) = false := (Eq.refl _).trans (Eq.refl _)
@[simp] theorem noBor_odic (ks : List Key) (xs : List D) : noBor (.odic ks xs) = noBorL xs := (Eq.refl _).trans (Eq.refl _)
@[simp] theorem frz_odic (ks : List Key) (xs : List D) : frz (.odic ks xs) = .dic ks (frzL xs) := (Eq.refl _).trans (Eq.refl _)
@[simp] theorem bors_odic (ks : List Key) (xs : List D) : bors (.odic ks xs) = borsL xs := (Eq.refl _).trans (Eq.refl _)
@[simp] theorem plain_bor (j : Nat) : plain (.bor j) = false := (Eq.refl _).trans (Eq.refl _)
@[simp] theorem noBor_bor (j : Nat) : noBor (.bor j) = false := (Eq.refl _).trans (Eq.refl _)
@[simp] theorem bors_bor (j : Nat) : bors (.bor j) = [j] := (Eq.refl _).trans (Eq.refl _)
@[simp] theorem plainL_nil : plainL [] = true := (Eq.refl _).trans (Eq.refl _)
@[simp] theorem plainL_cons (d : D) (ds : List D) : plainL (d :: ds) = (plain d && plainL ds) := (Eq.refl _).trans (Eq.refl _)
@[simp] theorem noBorL_nil : noBorL [] = true := (Eq.refl _).trans (Eq.refl _)
@[simp] theorem noBorL_cons (d : D) (ds : List D) : noBorL (d :: ds) = (noBor d && noBorL ds) := (Eq.refl _).trans (Eq.refl _)
@[simp] theorem frzL_nil : frzL [] = [] := (Eq.refl _).trans (Eq.refl _)
@[simp] theorem frzL_cons (d : D) (ds : List D) : frzL (d :: ds) = frz d :: frzL ds := (Eq.refl _).trans (Eq.refl _)
@[simp] theorem borsL_nil : borsL [] = [] := (Eq.refl _).trans (Eq.refl _)
@[simp] theorem borsL_cons (d : D) (ds : List D) : borsL (d :: ds) = bors d ++ borsL ds := (Eq.refl _).trans (Eq.refl _)

end
@[simp] theorem noLst_non : noLst .non = true := (Eq.refl _).trans (Eq.refl _)
@[simp] theorem noLst_bl (b : Bool) : noLst (.bl b) = true := (Eq.refl _).trans (Eq.refl _)
@[simp] theorem noLst_int (b : Int) : noLst (.int b) = true := (Eq.refl _).trans (Eq.refl _)
@[simp] theorem noLst_str (b : Str) : noLst (.str b) = true := (Eq.refl _).trans (Eq.refl _)
@[simp] theorem noLst_tup (b : List D) : noLst (.tup b) = noLstL b := (Eq.refl _).trans (Eq.refl _)
@[simp] theorem noLst_own (b : List D) : noLst (.own b) = noLstL b := (Eq.refl _).trans (Eq.refl _)
@[simp] theorem noLst_scr (b : List D) : noLst (.scr b) = noLstL b := (Eq.refl _).trans (Eq.refl _)
@[simp] theorem noLst_lst (b : List D) : noLst (.lst b) = false := (Eq.refl _).trans (Eq.refl _)
@[simp] theorem noLstL_nil : noLstL [] = true := (Eq.refl _).trans (Eq.refl _)
@[simp] theorem noLstL_cons (d : D) (ds : List D) : noLstL (d :: ds) = (noLst d && noLstL ds) := (Eq.refl _).trans (Eq.refl _)

/-! ### one step at a time: nothing is unfolded ahead of its environment -/
section
variable (env e1 : Env) (f g h : Env → Out D) (fs : Env → Out (List D)) (p q : Env → Out Bool) (a b : Env → SOut) (F F' : Env → List D → Option D) (M : List D → Out D) (i k : Nat) (d r : D) (ds es : List D) (x : Exn)
@[simp] theorem z_nil : dNil env = .ok [] env := (Eq.refl _).trans (Eq.refl _)
@[simp] theorem z_c : dC d env = .ok d env := (Eq.refl _).trans (Eq.refl _)
def vO (env : Env) (i : Nat) (o : Option (Option D)) : Out D := match o with
  | some (some d) => if plain d = true then .ok d env else .ok (.bor i) env
  | _ => .bad
@[simp] theorem z_var : dVar i env = vO env i env[i]? := (Eq.refl _).trans (Eq.refl _)
@[simp] theorem z_vO : vO env i (some (some d)) = if plain d = true then .ok d env else .ok (.bor i) env := (Eq.refl _).trans (Eq.refl _)
def cO2 (d : D) (o : Out (List D)) : Out (List D) := o.bind fun ds env2 => .ok (d :: ds) env2
def cO1 (o : Out D) (fs : Env → Out (List D)) : Out (List D) := o.bind fun d env1 => cO2 d (fs env1)
@[simp] theorem z_cons : dCons f fs env = cO1 (f env) fs := (Eq.refl _).trans (Eq.refl _)
@[simp] theorem z_c1 : cO1 (.ok d e1) fs = cO2 d (fs e1) := (Eq.refl _).trans (Eq.refl _)
@[simp] theorem z_c2 : cO2 d (.ok ds e1) = .ok (d :: ds) e1 := (Eq.refl _).trans (Eq.refl _)
@[simp] theorem z_c1e : cO1 (.err x e1) fs = .err x e1 := (Eq.refl _).trans (Eq.refl _)
@[simp] theorem z_c2e : cO2 d (.err x e1) = .err x e1 := (Eq.refl _).trans (Eq.refl _)
def oO2 (o : Option D) (env : Env) : Out D := match o with
  | some d => .ok d env
  | none => .bad
def oO (F : Env → List D → Option D) (o : Out (List D)) : Out D := o.bind fun ds env' => oO2 (F env' ds) env'
@[simp] theorem z_op : dOp F fs env = oO F (fs env) := (Eq.refl _).trans (Eq.refl _)
@[simp] theorem z_o : oO F (.ok ds e1) = oO2 (F e1 ds) e1 := (Eq.refl _).trans (Eq.refl _)
@[simp] theorem z_o2 : oO2 (some d) e1 = .ok d e1 := (Eq.refl _).trans (Eq.refl _)
@[simp] theorem z_oe : oO F (.err x e1) = .err x e1 := (Eq.refl _).trans (Eq.refl _)
def nO2 (F : Env → D → Option D) (o : Out D) : Out D := o.bind fun d env1 => oO2 (F env1 d) env1
@[simp] theorem z_on (F : Env → D → Option D) : dOn F f env = nO2 F (f env) := (Eq.refl _).trans (Eq.refl _)
@[simp] theorem z_n2 (F : Env → D → Option D) : nO2 F (.ok d e1) = oO2 (F e1 d) e1 := (Eq.refl _).trans (Eq.refl _)
def tupO (o : Out (List D)) : Out D := o.bind fun ds env' => if ds.length ≤ sizeLine then .ok (.tup ds) env' else .bad
def lstO (o : Out (List D)) : Out D := o.bind fun ds env' => if ds.length ≤ sizeLine then .ok (.own ds) env' else .bad
@[simp] theorem z_tup : dTup fs env = tupO (fs env) := (Eq.refl _).trans (Eq.refl _)
@[simp] theorem z_lst : dLst fs env = lstO (fs env) := (Eq.refl _).trans (Eq.refl _)
@[simp] theorem z_t1 : tupO (.ok ds e1) = if ds.length ≤ sizeLine then .ok (.tup ds) e1 else .bad := (Eq.refl _).trans (Eq.refl _)
@[simp] theorem z_l1 : lstO (.ok ds e1) = if ds.length ≤ sizeLine then .ok (.own ds) e1 else .bad := (Eq.refl _).trans (Eq.refl _)
def bO (o : Out D) : Out Bool := o.bind fun d env' => match d with
  | .bl b => .ok b env'
  | _ => .bad
@[simp] theorem z_b : dB f env = bO (f env) := (Eq.refl _).trans (Eq.refl _)
@[simp] theorem z_b1 (c : Bool) : bO (.ok (.bl c) e1) = .ok c e1 := (Eq.refl _).trans (Eq.refl _)
def trO2 (o : Option Bool) (env : Env) : Out Bool := match o with
  | some b => .ok b env
  | none => .bad
def trO (o : Out D) : Out Bool := o.bind fun d env' => trO2 (truD env' d) env'
@[simp] theorem z_tru : dTru f env = trO (f env) := by unfold dTru trO trO2; cases f env <;> rfl
@[simp] theorem z_tr : trO (.ok d e1) = trO2 (truD e1 d) e1 := (Eq.refl _).trans (Eq.refl _)
@[simp] theorem z_tr2 (c : Bool) : trO2 (some c) e1 = .ok c e1 := (Eq.refl _).trans (Eq.refl _)
def aO (o : Out Bool) (q : Env → Out Bool) : Out Bool := o.bind fun b env' => if b = true then q env' else .ok false env'
def orO (o : Out Bool) (q : Env → Out Bool) : Out Bool := o.bind fun b env' => if b = true then .ok true env' else q env'
def ngO (o : Out Bool) : Out Bool := o.bind fun b env' => .ok (!b) env'
@[simp] theorem z_and : dAnd p q env = aO (p env) q := (Eq.refl _).trans (Eq.refl _)
@[simp] theorem z_or : dOr p q env = orO (p env) q := (Eq.refl _).trans (Eq.refl _)
@[simp] theorem z_not : dNot p env = ngO (p env) := (Eq.refl _).trans (Eq.refl _)
@[simp] theorem z_at : aO (.ok true e1) q = q e1 := (Eq.refl _).trans (Eq.refl _)
@[simp] theorem z_af : aO (.ok false e1) q = .ok false e1 := (Eq.refl _).trans (Eq.refl _)
@[simp] theorem z_ot : orO (.ok true e1) q = .ok true e1 := (Eq.refl _).trans (Eq.refl _)
@[simp] theorem z_of : orO (.ok false e1) q = q e1 := (Eq.refl _).trans (Eq.refl _)
@[simp] theorem z_n (c : Bool) : ngO (.ok c e1) = .ok (!c) e1 := (Eq.refl _).trans (Eq.refl _)
def ifO (o : Out Bool) (f g : Env → Out D) : Out D := o.bind fun b env' => if b = true then f env' else g env'
@[simp] theorem z_if : dIf p f g env = ifO (p env) f g := (Eq.refl _).trans (Eq.refl _)
@[simp] theorem z_ift : ifO (.ok true e1) f g = f e1 := (Eq.refl _).trans (Eq.refl _)
@[simp] theorem z_iff : ifO (.ok false e1) f g = g e1 := (Eq.refl _).trans (Eq.refl _)
@[simp] theorem z_skip : dSkip env = .nx env := (Eq.refl _).trans (Eq.refl _)
@[simp] theorem z_sbad : dBad env = .bad := (Eq.refl _).trans (Eq.refl _)
def qO (o : SOut) (b : Env → SOut) : SOut := match o with
  | .nx env' => b env'
  | o => o
@[simp] theorem z_seq : dSeq a b env = qO (a env) b := (Eq.refl _).trans (Eq.refl _)
@[simp] theorem z_qn : qO (.nx e1) b = b e1 := (Eq.refl _).trans (Eq.refl _)
@[simp] theorem z_qr : qO (.rt d e1) b = .rt d e1 := (Eq.refl _).trans (Eq.refl _)
@[simp] theorem z_qe : qO (.err x e1) b = .err x e1 := (Eq.refl _).trans (Eq.refl _)
def sO2 (i : Nat) (o : Option (D × Env)) : SOut := match o with
  | some (d', env2) => if i < env2.length then .nx (env2.set i (some d')) else .bad
  | none => .bad
def sO (i : Nat) (o : Out D) : SOut := liftE o fun d env1 => sO2 i (mv d env1)
@[simp] theorem z_set : dSet i f env = sO i (f env) := (Eq.refl _).trans (Eq.refl _)
@[simp] theorem z_s1 : sO i (.ok d e1) = sO2 i (mv d e1) := (Eq.refl _).trans (Eq.refl _)
@[simp] theorem z_se : sO i (.err x e1) = .err x e1 := (Eq.refl _).trans (Eq.refl _)
@[simp] theorem z_s2 : sO2 i (some (d, e1)) = if i < e1.length then .nx (e1.set i (some d)) else .bad := (Eq.refl _).trans (Eq.refl _)
def xO (o : Out D) : SOut := liftE o fun _ env1 => .nx env1
@[simp] theorem z_expr : dExpr f env = xO (f env) := (Eq.refl _).trans (Eq.refl _)
@[simp] theorem z_x : xO (.ok d e1) = .nx e1 := (Eq.refl _).trans (Eq.refl _)
@[simp] theorem z_xe : xO (.err x e1) = .err x e1 := (Eq.refl _).trans (Eq.refl _)
def iO (o : Out Bool) (a b : Env → SOut) : SOut := match o with
  | .ok b' env' => if b' = true then a env' else b env'
  | .err x env' => .err x env'
  | .bad => .bad
@[simp] theorem z_ifs : dIfS p a b env = iO (p env) a b := (Eq.refl _).trans (Eq.refl _)
@[simp] theorem z_it : iO (.ok true e1) a b = a e1 := (Eq.refl _).trans (Eq.refl _)
@[simp] theorem z_ie : iO (.ok false e1) a b = b e1 := (Eq.refl _).trans (Eq.refl _)
def rO2 (o : Option (D × Env)) : SOut := match o with
  | some (d', env2) => .rt d' env2
  | none => .bad
def rO (o : Out D) : SOut := liftE o fun d env1 => rO2 (retV d env1)
@[simp] theorem z_ret : dRet f env = rO (f env) := (Eq.refl _).trans (Eq.refl _)
@[simp] theorem z_r1 : rO (.ok d e1) = rO2 (retV d e1) := (Eq.refl _).trans (Eq.refl _)
@[simp] theorem z_re : rO (.err x e1) = .err x e1 := (Eq.refl _).trans (Eq.refl _)
@[simp] theorem z_r2 : rO2 (some (d, e1)) = .rt d e1 := (Eq.refl _).trans (Eq.refl _)
@[simp] theorem z_retN : dRetN env = .rt .non env := (Eq.refl _).trans (Eq.refl _)
def gO (o : Option Env) : SOut := match o with
  | some env3 => .nx env3
  | none => .bad
@[simp] theorem z_g : gO (some e1) = .nx e1 := (Eq.refl _).trans (Eq.refl _)
def asO2 (q : D → Env → Option Env) (o : Option (D × Env)) : SOut := match o with
  | some (d', env2) => gO (q d' env2)
  | none => .bad
def asO (q : D → Env → Option Env) (o : Out D) : SOut := liftE o fun d env1 => asO2 q (mv d env1)
@[simp] theorem z_asg (q : D → Env → Option Env) : dAsg f q env = asO q (f env) := (Eq.refl _).trans (Eq.refl _)
@[simp] theorem z_as (q : D → Env → Option Env) : asO q (.ok d e1) = asO2 q (mv d e1) := (Eq.refl _).trans (Eq.refl _)
@[simp] theorem z_as2 (q : D → Env → Option Env) : asO2 q (some (d, e1)) = gO (q d e1) := (Eq.refl _).trans (Eq.refl _)
def paO2 (q : List D → Env → Option Env) (o : Option (List D × Env)) : SOut := match o with
  | some (d', env2) => gO (q d' env2)
  | none => .bad
def paO (q : List D → Env → Option Env) (o : Out (List D)) : SOut := liftL' o fun d env1 => paO2 q (mvL d env1)
@[simp] theorem z_par (q : List D → Env → Option Env) : dPar fs q env = paO q (fs env) := (Eq.refl _).trans (Eq.refl _)
@[simp] theorem z_pa (q : List D → Env → Option Env) : paO q (.ok ds e1) = paO2 q (mvL ds e1) := (Eq.refl _).trans (Eq.refl _)
@[simp] theorem z_pa2 (q : List D → Env → Option Env) : paO2 q (some (ds, e1)) = gO (q ds e1) := (Eq.refl _).trans (Eq.refl _)
@[simp] theorem z_gN : gN i d e1 = if i < e1.length then some (e1.set i (some d)) else none := (Eq.refl _).trans (Eq.refl _)
@[simp] theorem z_gs0 : gsNil [] e1 = some e1 := (Eq.refl _).trans (Eq.refl _)
@[simp] theorem z_gs1 (u : D → Env → Option Env) (v : List D → Env → Option Env) : gsCons u v (d :: ds) e1 = (u d e1).bind (v ds) := (Eq.refl _).trans (Eq.refl _)
@[simp] theorem z_gT (v : List D → Env → Option Env) : gT i v d e1 = (seqA d).bind fun ds => if ds.length = i then v ds e1 else none := (Eq.refl _).trans (Eq.refl _)
@[simp] theorem z_sqt : seqA (.tup ds) = some ds := (Eq.refl _).trans (Eq.refl _)
@[simp] theorem z_sqo : seqA (.own ds) = some ds := (Eq.refl _).trans (Eq.refl _)
@[simp] theorem z_sql : seqA (.lst ds) = some ds := (Eq.refl _).trans (Eq.refl _)
@[simp] theorem z_sqs : seqA (.scr ds) = some ds := (Eq.refl _).trans (Eq.refl _)
def kO3 (o : Out D) (l : List Nat) (env : Env) : Out D := match o with
  | .ok r _ => .ok r (back l (noLst r) env)
  | .err x _ => .err x env
  | .bad => .bad
def kO (M : List D → Out D) (o : Out (List D)) : Out D := o.bind fun ds env1 => callD M ds env1
@[simp] theorem z_call : dCall M fs env = kO M (fs env) := (Eq.refl _).trans (Eq.refl _)
@[simp] theorem z_k : kO M (.ok ds e1) = callD M ds e1 := (Eq.refl _).trans (Eq.refl _)
@[simp] theorem z_callD : callD M ds e1 = if noBorL (subL e1 ds) = true then kO3 (M (frzL (subL e1 ds))) (borsL ds) e1 else .bad := by unfold callD kO3; split <;> rfl
@[simp] theorem z_k3 (o : Env) (l : List Nat) : kO3 (.ok r o) l e1 = .ok r (back l (noLst r) e1) := (Eq.refl _).trans (Eq.refl _)
@[simp] theorem z_k3e (o : Env) (l : List Nat) : kO3 (.err x o) l e1 = .err x e1 := (Eq.refl _).trans (Eq.refl _)
@[simp] theorem z_back0 (c : Bool) : back [] c e1 = e1 := by simp [back]
@[simp] theorem z_back1 (l : List Nat) : back l true e1 = e1 := by simp [back]
def mO2 (o : Out D) (i0 : Nat) (l : List Nat) (env : Env) : Out D := match o with
  | .ok r (o0 :: _) => .ok r ((back l (noLst r && safeO o0) env).set i0 o0)
  | .err x (o0 :: _) => .err x ((l.foldl frzAt env).set i0 o0)
  | _ => .bad
def mO1 (M : List D → Out D) (o : Option (Option D)) (i0 : Nat) (rest : List D) (env : Env) : Out D := match o with
  | some (some d0) => if noBorL (subL env rest) = true ∧ (borsL rest).contains i0 = false then mO2 (M (d0 :: frzL (subL env rest))) i0 (borsL rest) env else .bad
  | _ => .bad
def mO (M : List D → Out D) (o : Out (List D)) : Out D := o.bind fun ds env1 => callM M ds env1
@[simp] theorem z_callM' : dCallM M fs env = mO M (fs env) := (Eq.refl _).trans (Eq.refl _)
@[simp] theorem z_m : mO M (.ok ds e1) = callM M ds e1 := (Eq.refl _).trans (Eq.refl _)
@[simp] theorem z_callM : callM M (.bor i :: ds) e1 = mO1 M e1[i]? i ds e1 := by
  simp only [callM]
  generalize e1[i]? = o
  cases o with
  | none => rfl
  | some o => cases o <;> rfl
@[simp] theorem z_m1 : mO1 M (some (some d)) i ds e1 = if noBorL (subL e1 ds) = true ∧ (borsL ds).contains i = false then mO2 (M (d :: frzL (subL e1 ds))) i (borsL ds) e1 else .bad := (Eq.refl _).trans (Eq.refl _)
@[simp] theorem z_m2 (o0 : Option D) (os : Env) (l : List Nat) : mO2 (.ok r (o0 :: os)) i l e1 = .ok r ((back l (noLst r && safeO o0) e1).set i o0) := (Eq.refl _).trans (Eq.refl _)
@[simp] theorem z_safe : safeO (some d) = noLst d := (Eq.refl _).trans (Eq.refl _)

/-! operations -/
section
variable (xs ys : List D) (n m : Int) (x y : Str) (c : Bool)
@[simp] theorem z_add : fAdd env [.int n, .int m] = some (.int (n + m)) := (Eq.refl _).trans (Eq.refl _)
@[simp] theorem z_addB : fAdd env [.int n, .bl c] = some (.int (n + PyProof.Rows.b2i c)) := (Eq.refl _).trans (Eq.refl _)
@[simp] theorem z_addS : fAdd env [.str x, .str y] = if x.length + y.length ≤ sizeLine then some (.str (x ++ y)) else none := (Eq.refl _).trans (Eq.refl _)
@[simp] theorem z_II (C : Int → Int → Prop) [∀ i j, Decidable (C i j)] (w : Int → Int → D) : fII C w env [.int n, .int m] = if C n m then some (w n m) else none := (Eq.refl _).trans (Eq.refl _)
@[simp] theorem z_mul : fMul env [.int n, .int m] = if CMulW n m then some (.int (n * m)) else none := (Eq.refl _).trans (Eq.refl _)
@[simp] theorem z_ix (u v : D) : fIx env [u, v] = (rd env u).bind fun w => ixD w v := (Eq.refl _).trans (Eq.refl _)
@[simp] theorem z_ixo : ixD (.own xs) (.int n) = plO (atI xs n) := (Eq.refl _).trans (Eq.refl _)
@[simp] theorem z_ixl : ixD (.lst xs) (.int n) = plO (atI xs n) := (Eq.refl _).trans (Eq.refl _)
@[simp] theorem z_ixt : ixD (.tup xs) (.int n) = plO (atI xs n) := (Eq.refl _).trans (Eq.refl _)
@[simp] theorem z_ixs : ixD (.scr xs) (.int n) = plO (atI xs n) := (Eq.refl _).trans (Eq.refl _)
@[simp] theorem z_ixx : ixD (.str x) (.int n) = if x.length ≤ sizeLine then (atI x.cps.toList n).map fun n => .str ⟨#[n]⟩ else none := (Eq.refl _).trans (Eq.refl _)
@[simp] theorem z_pl : plO (some d) = if plain d = true then some d else none := (Eq.refl _).trans (Eq.refl _)
@[simp] theorem z_rdb : rd env (.bor i) = match env[i]? with
  | some (some d) => some d
  | _ => none := (Eq.refl _).trans (Eq.refl _)
@[simp] theorem z_rdo : rd env (.own xs) = some (.own xs) := (Eq.refl _).trans (Eq.refl _)
@[simp] theorem z_rdl : rd env (.lst xs) = some (.lst xs) := (Eq.refl _).trans (Eq.refl _)
@[simp] theorem z_rdt : rd env (.tup xs) = some (.tup xs) := (Eq.refl _).trans (Eq.refl _)
@[simp] theorem z_rds : rd env (.scr xs) = some (.scr xs) := (Eq.refl _).trans (Eq.refl _)
@[simp] theorem z_rdx : rd env (.str x) = some (.str x) := (Eq.refl _).trans (Eq.refl _)
@[simp] theorem z_rdi : rd env (.int n) = some (.int n) := (Eq.refl _).trans (Eq.refl _)
@[simp] theorem z_rdB : rd env (.bl c) = some (.bl c) := (Eq.refl _).trans (Eq.refl _)
@[simp] theorem z_rdn : rd env .non = some .non := (Eq.refl _).trans (Eq.refl _)
@[simp] theorem z_mv (h : noBor d = true) : mv d env = some (d, env) := by unfold mv; rw [if_pos h]
@[simp] theorem z_retn : retV .non env = some (.non, env) := by simp [retV]
@[simp] theorem z_reti : retV (.int n) env = some (.int n, env) := by simp [retV]
@[simp] theorem z_retx : retV (.str x) env = some (.str x, env) := by simp [retV]
@[simp] theorem z_retb : retV (.bl c) env = some (.bl c, env) := by simp [retV]
@[simp] theorem z_reto (h : noBorL xs = true) : retV (.own xs) env = some (.own xs, env) := by simp [retV, h]
@[simp] theorem z_retl (h : noBorL xs = true) : retV (.lst xs) env = some (.lst xs, env) := by simp [retV, h]
@[simp] theorem z_rett (h : noBorL xs = true) : retV (.tup xs) env = some (.tup xs, env) := by simp [retV, h]
theorem z_retbor (h : env[i]? = some (some d)) : retV (.bor i) env = some (d, env.set i none) := by simp [retV, h]
@[simp] theorem z_sub_i : sub env (.int n) = .int n := (Eq.refl _).trans (Eq.refl _)
@[simp] theorem z_sub_b : sub env (.bl c) = .bl c := (Eq.refl _).trans (Eq.refl _)
@[simp] theorem z_sub_x : sub env (.str x) = .str x := (Eq.refl _).trans (Eq.refl _)
@[simp] theorem z_sub_n : sub env .non = .non := (Eq.refl _).trans (Eq.refl _)
@[simp] theorem z_sub_t : sub env (.tup xs) = .tup (subL env xs) := (Eq.refl _).trans (Eq.refl _)
@[simp] theorem z_sub_o : sub env (.own xs) = .own (subL env xs) := (Eq.refl _).trans (Eq.refl _)
@[simp] theorem z_sub_l : sub env (.lst xs) = .lst (subL env xs) := (Eq.refl _).trans (Eq.refl _)
@[simp] theorem z_sub_s : sub env (.scr xs) = .scr (subL env xs) := (Eq.refl _).trans (Eq.refl _)
@[simp] theorem z_sub_bor : sub env (.bor i) = match env[i]? with
  | some (some d) => d
  | _ => .bor i := (Eq.refl _).trans (Eq.refl _)
@[simp] theorem z_subL0 : subL env [] = [] := (Eq.refl _).trans (Eq.refl _)
@[simp] theorem z_subL1 : subL env (d :: ds) = sub env d :: subL env ds := (Eq.refl _).trans (Eq.refl _)
def pkO3 (i : Nat) (d' : D) (xs : List D) (env3 : Env) (o : Option Nat) : SOut := match o with
  | some j => if noBorL (xs.set j d') = true then .nx (env3.set i (some (.own (xs.set j d')))) else .bad
  | none => .bad
def pkO2 (i : Nat) (d' : D) (kd : D) (o : Option (List D)) (env3 : Env) : SOut := match kd, o with
  | .int k, some xs => pkO3 i d' xs env3 (ixN xs.length k)
  | _, _ => .bad
def pkO (i : Nat) (d' : D) (o : Out D) : SOut := liftE o fun kd env3 => pkO2 i d' kd (ownAt env3 i) env3
def puO2 (i : Nat) (fk : Env → Out D) (o : Option (D × Env)) : SOut := match o with
  | some (d', env2) => if (ownAt env2 i).isSome = true then pkO i d' (fk env2) else .bad
  | none => .bad
def puO (i : Nat) (fk : Env → Out D) (o : Out D) : SOut := liftE o fun d env1 => puO2 i fk (mv d env1)
@[simp] theorem z_put : dPutIx i f g env = puO i g (f env) := by
  unfold dPutIx puO puO2 pkO pkO2 pkO3
  cases f env with
  | ok d e =>
    simp only [liftE]
    all_goals cases mv d e with
    | none => rfl
    | some q =>
      obtain ⟨d', e2⟩ := q
      simp only
      split
      · cases g e2 with
        | ok kd e3 => cases kd <;> first | rfl | (cases ownAt e3 i <;> first | rfl | (simp only; split <;> simp_all))
        | _ => rfl
      · rfl
  | _ => rfl
@[simp] theorem z_pu : puO i g (.ok d e1) = puO2 i g (mv d e1) := (Eq.refl _).trans (Eq.refl _)
@[simp] theorem z_pu2 : puO2 i g (some (d, e1)) = if (ownAt e1 i).isSome = true then pkO i d (g e1) else .bad := (Eq.refl _).trans (Eq.refl _)
@[simp] theorem z_pk (kd : D) : pkO i d (.ok kd e1) = pkO2 i d kd (ownAt e1 i) e1 := (Eq.refl _).trans (Eq.refl _)
@[simp] theorem z_pk2 : pkO2 i d (.int n) (some xs) e1 = pkO3 i d xs e1 (ixN xs.length n) := (Eq.refl _).trans (Eq.refl _)
@[simp] theorem z_pk3 (j : Nat) : pkO3 i d xs e1 (some j) = if noBorL (xs.set j d) = true then .nx (e1.set i (some (.own (xs.set j d)))) else .bad := (Eq.refl _).trans (Eq.refl _)
@[simp] theorem z_own : ownAt env i = match env[i]? with
  | some (some (.own xs)) => some xs
  | _ => none := (Eq.refl _).trans (Eq.refl _)
end
end
end Dn
/-! Dn26: more steps; loops. -/
namespace Dn
open PySem PySem.Spec L2
@[simp] theorem z_size : sizeLine = 16777216 := by decide
section
variable (env e1 : Env) (f g h : Env → Out D) (fs : Env → Out (List D)) (fi : Env → Out (List D)) (a b : Env → SOut) (F F' : Env → List D → Option D) (M : List D → Out D) (i k : Nat) (d r : D) (ds es xs ys : List D) (x : Exn) (n m : Int) (c : Bool) (y : Str)
def andO (o : Out D) (g : Env → Out D) : Out D := o.bind fun d env' => match d with
  | .bl true => g env'
  | .bl false => .ok (.bl false) env'
  | _ => .bad
def orvO (o : Out D) (g : Env → Out D) : Out D := o.bind fun d env' => match d with
  | .bl true => .ok (.bl true) env'
  | .bl false => g env'
  | _ => .bad
@[simp] theorem z_andV : dAndV f g env = andO (f env) g := (Eq.refl _).trans (Eq.refl _)
@[simp] theorem z_orV : dOrV f g env = orvO (f env) g := (Eq.refl _).trans (Eq.refl _)
@[simp] theorem z_andt : andO (.ok (.bl true) e1) g = g e1 := (Eq.refl _).trans (Eq.refl _)
@[simp] theorem z_andf : andO (.ok (.bl false) e1) g = .ok (.bl false) e1 := (Eq.refl _).trans (Eq.refl _)
@[simp] theorem z_ort : orvO (.ok (.bl true) e1) g = .ok (.bl true) e1 := (Eq.refl _).trans (Eq.refl _)
@[simp] theorem z_orf : orvO (.ok (.bl false) e1) g = g e1 := (Eq.refl _).trans (Eq.refl _)
def chO2 (F' : Env → List D → Option D) (j : Int) (o : Out D) : Out D := o.bind fun z env3 => oO2 (F' env3 [.int j, z]) env3
def chO (F F' : Env → List D → Option D) (x : D) (k : Env → Out D) (o : Out D) : Out D := o.bind fun y env2 => match y, F env2 [x, y] with
  | .int j, some (.bl true) => chO2 F' j (k env2)
  | _, some (.bl false) => .ok (.bl false) env2
  | _, _ => .bad
def chO0 (F F' : Env → List D → Option D) (g k : Env → Out D) (o : Out D) : Out D := o.bind fun x env1 => chO F F' x k (g env1)
@[simp] theorem z_chn : dChn F F' f g h env = chO0 F F' g h (f env) := (Eq.refl _).trans (Eq.refl _)
@[simp] theorem z_ch0 : chO0 F F' g h (.ok d e1) = chO F F' d h (g e1) := (Eq.refl _).trans (Eq.refl _)
theorem z_cht (q : F e1 [d, .int n] = some (.bl true)) : chO F F' d h (.ok (.int n) e1) = chO2 F' n (h e1) := by simp [chO, q]
theorem z_chf (q : F e1 [d, .int n] = some (.bl false)) : chO F F' d h (.ok (.int n) e1) = .ok (.bl false) e1 := by simp [chO, q]
@[simp] theorem z_ch2 : chO2 F' n (.ok d e1) = oO2 (F' e1 [.int n, d]) e1 := (Eq.refl _).trans (Eq.refl _)
@[simp] theorem z_trI : truD env (.int n) = some (n != 0) := (Eq.refl _).trans (Eq.refl _)
@[simp] theorem z_trB : truD env (.bl c) = some c := (Eq.refl _).trans (Eq.refl _)
@[simp] theorem z_trT : truD env (.tup xs) = some (!xs.isEmpty) := (Eq.refl _).trans (Eq.refl _)
@[simp] theorem z_isi (T : String) : fIsi T env d = ((rd env d).bind tyD).map fun t => .bl (isiB t T) := (Eq.refl _).trans (Eq.refl _)
@[simp] theorem z_tyx : tyD (.str y) = some "str" := (Eq.refl _).trans (Eq.refl _)
@[simp] theorem z_tyi : tyD (.int n) = some "int" := (Eq.refl _).trans (Eq.refl _)
@[simp] theorem z_tyt : tyD (.tup xs) = some "tuple" := (Eq.refl _).trans (Eq.refl _)
@[simp] theorem z_tyl : tyD (.lst xs) = some "list" := (Eq.refl _).trans (Eq.refl _)
@[simp] theorem z_tyo : tyD (.own xs) = some "list" := (Eq.refl _).trans (Eq.refl _)
@[simp] theorem z_len : fLen env [d] = ((rd env d).bind lenD).map fun n => .int (n : Nat) := (Eq.refl _).trans (Eq.refl _)
@[simp] theorem z_lent : lenD (.tup xs) = some xs.length := (Eq.refl _).trans (Eq.refl _)
@[simp] theorem z_lenl : lenD (.lst xs) = some xs.length := (Eq.refl _).trans (Eq.refl _)
@[simp] theorem z_leno : lenD (.own xs) = some xs.length := (Eq.refl _).trans (Eq.refl _)
@[simp] theorem z_lens : lenD (.scr xs) = some xs.length := (Eq.refl _).trans (Eq.refl _)
@[simp] theorem z_lenx : lenD (.str y) = if y.length ≤ sizeLine then some y.length else none := (Eq.refl _).trans (Eq.refl _)
@[simp] theorem z_max : fMax2 env [.int n, .int m] = some (.int (if m > n then m else n)) := (Eq.refl _).trans (Eq.refl _)
@[simp] theorem z_min : fMin2 env [.int n, .int m] = some (.int (if m < n then m else n)) := (Eq.refl _).trans (Eq.refl _)
@[simp] theorem z_abs : fAbs env [.int n] = some (.int (if n < 0 then -n else n)) := (Eq.refl _).trans (Eq.refl _)
@[simp] theorem z_intI : fInt1 env [.int n] = some (.int n) := (Eq.refl _).trans (Eq.refl _)
@[simp] theorem z_intB : fInt1 env [.bl c] = some (.int (if c then 1 else 0)) := (Eq.refl _).trans (Eq.refl _)
@[simp] theorem z_listof : fListOf env [d] = ((rd env d).bind seqA).bind fun ds => if plainL ds = true then some (.own ds) else none := (Eq.refl _).trans (Eq.refl _)
@[simp] theorem z_tupof : fTupOf env [d] = ((rd env d).bind seqA).bind fun ds => if plainL ds = true then some (.tup ds) else none := (Eq.refl _).trans (Eq.refl _)
@[simp] theorem z_all : fAll env [d] = (rdL env d).bind fun ds => (ds.mapM blD).map fun bs => .bl (bs.all id) := (Eq.refl _).trans (Eq.refl _)
@[simp] theorem z_rdLo : rdL env (.own xs) = some xs := (Eq.refl _).trans (Eq.refl _)
theorem mapM_bl : ∀ l : List Bool, (l.map D.bl).mapM blD = some l
  | [] => rfl
  | b :: l => by
    rw [List.map_cons, List.mapM_cons, mapM_bl l]
    rfl
@[simp] theorem mapM_blc : ∀ l : List Bool, l.mapM (blD ∘ D.bl) = some l
  | [] => rfl
  | b :: l => by
    rw [List.mapM_cons, mapM_blc l]
    rfl
def itO2 (o : Option (List D)) (env : Env) : Out (List D) := match o with
  | some items => .ok items env
  | none => .bad
def itO1 (o : Option (D × Env)) : Out (List D) := match o with
  | some (d', env2) => itO2 (itemsD (frz d')) env2
  | none => .bad
def itO (o : Out D) : Out (List D) := o.bind fun d env1 => itO1 (mv d env1)
@[simp] theorem z_items : dItems f env = itO (f env) := (Eq.refl _).trans (Eq.refl _)
@[simp] theorem z_it0 : itO (.ok d e1) = itO1 (mv d e1) := (Eq.refl _).trans (Eq.refl _)
@[simp] theorem z_it1 : itO1 (some (d, e1)) = itO2 (itemsD (frz d)) e1 := (Eq.refl _).trans (Eq.refl _)
@[simp] theorem z_it2 : itO2 (some ds) e1 = .ok ds e1 := (Eq.refl _).trans (Eq.refl _)
@[simp] theorem z_itt : itemsD (.tup xs) = some xs := (Eq.refl _).trans (Eq.refl _)
@[simp] theorem z_itl : itemsD (.lst xs) = some xs := (Eq.refl _).trans (Eq.refl _)
@[simp] theorem z_its : itemsD (.scr xs) = some xs := (Eq.refl _).trans (Eq.refl _)
@[simp] theorem z_itx : itemsD (.str y) = some (y.cps.toList.map fun n => .str ⟨#[n]⟩) := (Eq.refl _).trans (Eq.refl _)
def rgO (o : Out (List D)) : Out (List D) := o.bind fun ds env1 => match ds with
  | [.int j] => if small62 j then .ok (rngD 0 j.toNat) env1 else .bad
  | [.int i, .int j] => if small62 i ∧ small62 j then .ok (rngD i (j - i).toNat) env1 else .bad
  | _ => .bad
@[simp] theorem z_rng : dRng fs env = rgO (fs env) := (Eq.refl _).trans (Eq.refl _)
@[simp] theorem z_rg1 : rgO (.ok [.int n] e1) = if small62 n then .ok (rngD 0 n.toNat) e1 else .bad := (Eq.refl _).trans (Eq.refl _)
@[simp] theorem z_lenset (u : D) : fLenSet env [u] = (rdT env u).bind fun ds => (strsD ds).bind fun xs => if xs.length ≤ 4000 then some (.int (difs xs).length) else none := (Eq.refl _).trans (Eq.refl _)
@[simp] theorem z_rdTt : rdT env (.tup xs) = some xs := (Eq.refl _).trans (Eq.refl _)
@[simp] theorem z_rdLl : rdL env (.lst xs) = some xs := (Eq.refl _).trans (Eq.refl _)
@[simp] theorem z_eqI : fEq env [.int n, .int m] = some (.bl (n == m)) := (Eq.refl _).trans (Eq.refl _)
@[simp] theorem z_neI : fNe env [.int n, .int m] = some (.bl (!(n == m))) := (Eq.refl _).trans (Eq.refl _)
@[simp] theorem z_eqX (z : Str) : fEq env [.str y, .str z] = some (.bl (y == z)) := (Eq.refl _).trans (Eq.refl _)
@[simp] theorem z_neX (z : Str) : fNe env [.str y, .str z] = some (.bl (!(y == z))) := (Eq.refl _).trans (Eq.refl _)
def enO2 (o : Option (List D)) (env : Env) : Out (List D) := match o with
  | some ds => .ok (enD ds) env
  | none => .bad
def enO1 (o : Option (D × Env)) : Out (List D) := match o with
  | some (d', env2) => enO2 (seqF (frz d')) env2
  | none => .bad
def enO (o : Out D) : Out (List D) := o.bind fun d env1 => enO1 (mv d env1)
@[simp] theorem z_enum : dEnum f env = enO (f env) := (Eq.refl _).trans (Eq.refl _)
@[simp] theorem z_en0 : enO (.ok d e1) = enO1 (mv d e1) := (Eq.refl _).trans (Eq.refl _)
@[simp] theorem z_en1 : enO1 (some (d, e1)) = enO2 (seqF (frz d)) e1 := (Eq.refl _).trans (Eq.refl _)
@[simp] theorem z_en2 : enO2 (some ds) e1 = .ok (enD ds) e1 := (Eq.refl _).trans (Eq.refl _)
@[simp] theorem z_enl : seqF (.lst xs) = some xs := (Eq.refl _).trans (Eq.refl _)
def foO (t : D → Env → Option Env) (b : Env → SOut) (o : Out (List D)) : SOut := liftL o fun items env1 => forL t b items env1
@[simp] theorem z_for (t : D → Env → Option Env) : dFor fi t b env = foO t b (fi env) := (Eq.refl _).trans (Eq.refl _)
@[simp] theorem z_fo (t : D → Env → Option Env) : foO t b (.ok ds e1) = if plainL ds = true then forL t b ds e1 else .bad := (Eq.refl _).trans (Eq.refl _)
def lcO2 (own : List Nat) (o : Out (List D)) : Out D := match o with
  | .ok acc env2 => .ok (.own acc) (wipeE env2 own)
  | _ => .bad
def lcO (t : D → Env → Option Env) (p : Env → Out Bool) (e : Env → Out D) (own : List Nat) (o : Out (List D)) : Out D := match o with
  | .ok items env1 => if plainL items = true then lcO2 own (lcL t p e own items [] env1) else .bad
  | .err x env1 => .err x env1
  | .bad => .bad
@[simp] theorem z_lc (t : D → Env → Option Env) (p : Env → Out Bool) (own : List Nat) : dLc fi t p g own env = lcO t p g own (fi env) := by
  unfold dLc lcO lcO2
  cases fi env with
  | ok items e => simp only <;> split <;> rfl
  | _ => rfl
@[simp] theorem z_lco (t : D → Env → Option Env) (p : Env → Out Bool) (own : List Nat) : lcO t p g own (.ok ds e1) = if plainL ds = true then lcO2 own (lcL t p g own ds [] e1) else .bad := (Eq.refl _).trans (Eq.refl _)
@[simp] theorem z_lc2 (own : List Nat) : lcO2 own (.ok ds e1) = .ok (.own ds) (wipeE e1 own) := (Eq.refl _).trans (Eq.refl _)
/-- a comprehension that maps, and leaves out -/
theorem lc_fm {t : D → Env → Option Env} {p : Env → Out Bool} {g : Env → Out D} {own : List Nat} {W : Env} (P : D → Bool) (G : D → D) : ∀ (items acc : List D) (env : Env), wipeE env own = W → acc.length + items.length ≤ sizeLine →
    (∀ d ∈ items, ∃ e, t d W = some e ∧ p e = .ok (P d) e ∧ wipeE e own = W ∧ (P d = true → ∃ e2, g e = .ok (G d) e2 ∧ noBor (G d) = true ∧ wipeE e2 own = W)) → ∃ e, lcL t p g own items acc env = .ok (acc ++ (items.filter P).map fun d => frz (G d)) e ∧ wipeE e own = W
  | [], acc, env, hw, _, _ => ⟨env, by simp [lcL], hw⟩
  | d :: ds, acc, env, hw, hl, h => by
    obtain ⟨e, h1, h2, h3, h4⟩ := h d List.mem_cons_self
    rw [List.length_cons] at hl
    unfold lcL
    rw [hw, h1]
    simp only [h2]
    cases hP : P d with
    | false =>
      obtain ⟨e', r1, r2⟩ := lc_fm P G ds acc e h3 (by omega) fun x hx => h x (List.mem_cons_of_mem _ hx)
      refine ⟨e', ?_, r2⟩
      simp only [List.filter_cons, hP, Bool.false_eq_true, if_false]
      exact r1
    | true =>
      obtain ⟨e2, g1, g2, g3⟩ := h4 hP
      obtain ⟨e', r1, r2⟩ := lc_fm P G ds (acc ++ [frz (G d)]) e2 g3 (by rw [List.length_append, List.length_singleton]; omega) fun x hx => h x (List.mem_cons_of_mem _ hx)
      refine ⟨e', ?_, r2⟩
      simp only [g1]
      rw [z_mv _ _ g2]
      simp only
      rw [if_pos (by have := z_size; omega), r1]
      simp [List.filter_cons, hP]
/-- .. that maps alone -/
theorem lc_map {t : D → Env → Option Env} {g : Env → Out D} {own : List Nat} {W : Env} (G : D → D) (items : List D) (env : Env) (hw : wipeE env own = W) (hl : items.length ≤ sizeLine) (h : ∀ d ∈ items, ∃ e, t d W = some e ∧ ∃ e2, g e = .ok (G d) e2 ∧ noBor (G d) = true ∧ wipeE e2 own = W ∧ wipeE e own = W) :
    ∃ e, lcL t (fun env => .ok true env) g own items [] env = .ok (items.map fun d => frz (G d)) e ∧ wipeE e own = W := by
  obtain ⟨e, h1, h2⟩ := lc_fm (t := t) (p := fun env => .ok true env) (g := g) (own := own) (W := W) (fun _ => true) G items [] env hw (by simpa using hl) fun d hd => by
    obtain ⟨e, q1, e2, q2, q3, q4, q5⟩ := h d hd
    exact ⟨e, q1, rfl, q5, fun _ => ⟨e2, q2, q3, q4⟩⟩
  rw [List.filter_eq_self.mpr fun _ _ => rfl] at h1
  exact ⟨e, by simpa using h1, h2⟩
end

mutual
theorem plain_bors : ∀ d, plain d = true → bors d = []
  | .tup xs, h => by simpa using plainL_bors xs (by simpa using h)
  | .lst xs, h => by simpa using plainL_bors xs (by simpa using h)
  | .scr xs, h => by simpa using plainL_bors xs (by simpa using h)
  | .dic _ xs, h => by simpa using plainL_bors xs (by simpa using h)
  | .own xs, h => by simp at h
  | .odic _ xs, h => by simp at h
  | .bor i, h => by simp at h
  | .exc _ _ xs, h => by simp only [bors]; exact plainL_bors xs (by simpa [plain] using h)
  | .non, _ => rfl
  | .bl _, _ => rfl
  | .int _, _ => rfl
  | .str _, _ => rfl
theorem plainL_bors : ∀ ds, plainL ds = true → borsL ds = []
  | [], _ => rfl
  | d :: ds, h => by
    simp only [plainL, Bool.and_eq_true] at h
    simp [plain_bors d h.1, plainL_bors ds h.2]
end
/-- a plain thing is handed about as it is -/
theorem tame {d : D} (h : plain d = true) : plain d = true ∧ frz d = d ∧ noBor d = true ∧ (∀ e, sub e d = d) ∧ bors d = [] := ⟨h, frz_plain d h, plain_noBor d h, fun _ => sub_id d (plain_noBor d h), plain_bors d h⟩

section
variable (env e1 : Env) (f g h : Env → Out D) (fs : Env → Out (List D)) (fl fh : Env → Out (Option Int)) (F : List D → Out D) (Mu : List D → List D → Option (D × List D)) (i k : Nat) (d r : D) (ds es xs ys : List D) (n m : Int) (c : Bool) (y : Str) (p : List Nat) (lo hi : Option Int)
def muO3 (i : Nat) (env2 : Env) (o : Option (D × List D)) : Out D := match o with
  | some (rd, ys) => if noBor rd = true ∧ noBorL ys = true then .ok rd (env2.set i (some (.own ys))) else .bad
  | none => .bad
def muO2 (i : Nat) (M : List D → List D → Option (D × List D)) (ads : List D) (env2 : Env) (o : Option (List D)) : Out D := match o with
  | some xs => muO3 i env2 (M xs ads)
  | none => .bad
def muO1 (i : Nat) (M : List D → List D → Option (D × List D)) (o : Option (List D × Env)) : Out D := match o with
  | some (ads, env2) => muO2 i M ads env2 (ownAt env2 i)
  | none => .bad
def muO (i : Nat) (M : List D → List D → Option (D × List D)) (o : Out (List D)) : Out D := o.bind fun ds env1 => muO1 i M (mvL ds env1)
@[simp] theorem z_mut : dMut i Mu fs env = if (ownAt env i).isSome = true then muO i Mu (fs env) else .bad := by
  unfold dMut muO
  split
  · cases fs env with
    | ok ds e =>
      simp only [Out.bind_ok]
      cases mvL ds e with
      | none => rfl
      | some q =>
        obtain ⟨a, b⟩ := q
        simp only [muO1]
        cases ownAt b i with
        | none => rfl
        | some xs =>
          simp only [muO2]
          cases Mu xs a with
          | none => rfl
          | some z => rfl
    | _ => rfl
  · rfl
@[simp] theorem z_mu0 : muO i Mu (.ok ds e1) = muO1 i Mu (mvL ds e1) := (Eq.refl _).trans (Eq.refl _)
@[simp] theorem z_mu1 : muO1 i Mu (some (ds, e1)) = muO2 i Mu ds e1 (ownAt e1 i) := (Eq.refl _).trans (Eq.refl _)
@[simp] theorem z_mu2 : muO2 i Mu ds e1 (some xs) = muO3 i e1 (Mu xs ds) := (Eq.refl _).trans (Eq.refl _)
@[simp] theorem z_mu3 : muO3 i e1 (some (d, xs)) = if noBor d = true ∧ noBorL xs = true then .ok d (e1.set i (some (.own xs))) else .bad := (Eq.refl _).trans (Eq.refl _)
@[simp] theorem z_mvL0 : mvL [] env = some ([], env) := (Eq.refl _).trans (Eq.refl _)
def mvO2 (d : D) (o : Option (List D × Env)) : Option (List D × Env) := match o with
  | some (ds', env2) => some (d :: ds', env2)
  | none => none
def mvO (ds : List D) (o : Option (D × Env)) : Option (List D × Env) := match o with
  | some (d', env1) => mvO2 d' (mvL ds env1)
  | none => none
@[simp] theorem z_mvL1 : mvL (d :: ds) env = mvO ds (mv d env) := (Eq.refl _).trans (Eq.refl _)
@[simp] theorem z_mvo : mvO ds (some (d, e1)) = mvO2 d (mvL ds e1) := (Eq.refl _).trans (Eq.refl _)
@[simp] theorem z_mvo2 : mvO2 d (some (ds, e1)) = some (d :: ds, e1) := (Eq.refl _).trans (Eq.refl _)
@[simp] theorem z_append : mAppend xs [d] = if xs.length < sizeLine then some (.non, xs ++ [d]) else none := (Eq.refl _).trans (Eq.refl _)
@[simp] theorem z_popAt : mPopAt xs [.int n] = if -(2 ^ 63) ≤ n ∧ n < 2 ^ 63 then (seqIndex? n xs.length).bind fun k => (xs[k]?).map fun y => (y, xs.eraseIdx k) else none := (Eq.refl _).trans (Eq.refl _)
@[simp] theorem z_neg : fNeg env [.int n] = some (.int (-n)) := (Eq.refl _).trans (Eq.refl _)
def ckO (F : List D → Out D) (p : List Nat) (o : Out (List D)) : Out D := o.bind fun ds env1 => if ds.all bareD = true then callD F (pickL p ds) env1 else .bad
@[simp] theorem z_callK : dCallK F p fs env = ckO F p (fs env) := (Eq.refl _).trans (Eq.refl _)
@[simp] theorem z_ck : ckO F p (.ok ds e1) = if ds.all bareD = true then callD F (pickL p ds) e1 else .bad := (Eq.refl _).trans (Eq.refl _)
@[simp] theorem z_bareb : bareD (.bor i) = true := (Eq.refl _).trans (Eq.refl _)
theorem z_bare (h : plain d = true) : bareD d = true := by cases d <;> first | rfl | exact h
def ptO (o : Out D) : Out (Option Int) := o.bind fun d env' => match d with
  | .int i => .ok (some i) env'
  | _ => .bad
@[simp] theorem z_part : dPart f env = ptO (f env) := (Eq.refl _).trans (Eq.refl _)
@[simp] theorem z_pt : ptO (.ok (.int n) e1) = .ok (some n) e1 := (Eq.refl _).trans (Eq.refl _)
@[simp] theorem z_nop : dNoP env = .ok none env := (Eq.refl _).trans (Eq.refl _)
def slO3 (c : Option D) (lo hi : Option Int) (env : Env) : Out D := oO2 (c.bind fun c' => slD c' lo hi) env
def slO2 (c : D) (lo : Option Int) (o : Out (Option Int)) : Out D := o.bind fun hi env3 => slO3 (rd env3 c) lo hi env3
def slO1 (c : D) (fh : Env → Out (Option Int)) (o : Out (Option Int)) : Out D := o.bind fun lo env2 => slO2 c lo (fh env2)
def slO (fl fh : Env → Out (Option Int)) (o : Out D) : Out D := o.bind fun c env1 => slO1 c fh (fl env1)
@[simp] theorem z_sl : dSl f fl fh env = slO fl fh (f env) := (Eq.refl _).trans (Eq.refl _)
@[simp] theorem z_sl0 : slO fl fh (.ok d e1) = slO1 d fh (fl e1) := (Eq.refl _).trans (Eq.refl _)
@[simp] theorem z_sl1 : slO1 d fh (.ok lo e1) = slO2 d lo (fh e1) := (Eq.refl _).trans (Eq.refl _)
@[simp] theorem z_sl2 : slO2 d lo (.ok hi e1) = slO3 (rd e1 d) lo hi e1 := (Eq.refl _).trans (Eq.refl _)
@[simp] theorem z_sl3 : slO3 (some d) lo hi e1 = oO2 (slD d lo hi) e1 := (Eq.refl _).trans (Eq.refl _)
@[simp] theorem z_slo : slD (.own xs) lo hi = if plainL xs = true then some (.own (cutD xs lo hi)) else none := (Eq.refl _).trans (Eq.refl _)
@[simp] theorem z_sll : slD (.lst xs) lo hi = if plainL xs = true then some (.own (cutD xs lo hi)) else none := (Eq.refl _).trans (Eq.refl _)
/-- the last item -/
theorem atI_m1 {α : Type} (l : List α) (x : α) : atI (l ++ [x]) (-1) = some x := by
  unfold L2.atI ixN
  rw [if_neg (by decide), if_pos (by simp; omega)]
  simp
  have e : (-1 + ((l.length : Int) + 1)).toNat = l.length := by omega
  rw [e]
  simp
theorem atI_n {α : Type} {l : List α} {k : Nat} {x : α} (h : l[k]? = some x) : atI l (k : Nat) = some x := atI_nat h
def rvO (env : Env) (i : Nat) (o : Option (Option D)) : Option (D × Env) := match o with
  | some (some d) => some (d, env.set i none)
  | _ => none
@[simp] theorem z_retbr : retV (.bor i) env = rvO env i env[i]? := (Eq.refl _).trans (Eq.refl _)
@[simp] theorem z_rvo : rvO env i (some (some d)) = some (d, env.set i none) := (Eq.refl _).trans (Eq.refl _)
theorem z_retow (h : noBorL xs = false) : retV (.own xs) env = (takeL xs env).map fun q => (.own q.1, q.2) := by
  unfold retV
  simp only [h, Bool.false_eq_true, if_false]
@[simp] theorem z_retls : retV (.lst xs) env = mv (.lst xs) env := (Eq.refl _).trans (Eq.refl _)
def mbO (d : D) (env : Env) : Option (D × Env) := if noBor (sub env d) = true then some (sub env d, env) else none
theorem z_mvb (h : noBor d = false) : mv d env = mbO d ((bors d).foldl frzAt env) := by
  unfold mv mbO
  rw [h]
  simp
@[simp] theorem z_mbO : mbO d env = if noBor (sub env d) = true then some (sub env d, env) else none := (Eq.refl _).trans (Eq.refl _)
def fzO (env : Env) (i : Nat) (o : Option (Option D)) : Env := match o with
  | some (some d) => env.set i (some (frz d))
  | _ => env
@[simp] theorem z_frzAt : frzAt env i = fzO env i env[i]? := (Eq.refl _).trans (Eq.refl _)
@[simp] theorem z_fzO : fzO env i (some (some d)) = env.set i (some (frz d)) := (Eq.refl _).trans (Eq.refl _)
def maO3 (i k : Nat) (xs : List D) (env : Env) (o : Option (D × List D)) : Out D := match o with
  | some (rd, ys') => if noBor rd = true ∧ noBorL (xs.set k (.own ys')) = true then .ok rd (env.set i (some (.own (xs.set k (.own ys'))))) else .bad
  | none => .bad
def maO2 (i k : Nat) (M : List D → List D → Option (D × List D)) (ads xs : List D) (env : Env) (o : Option D) : Out D := match o with
  | some (.own ys) => maO3 i k xs env (M ys ads)
  | _ => .bad
def maO (i k : Nat) (M : List D → List D → Option (D × List D)) (ads : List D) (env : Env) (o : Option (List D)) : Out D := match o with
  | some xs => maO2 i k M ads xs env xs[k]?
  | none => .bad
@[simp] theorem z_mutAt : dMutAt i k Mu ds env = maO i k Mu ds env (ownAt env i) := by
  unfold dMutAt maO
  cases ownAt env i with
  | none => rfl
  | some xs =>
    simp only
    unfold maO2
    cases xs[k]? with
    | none => rfl
    | some d => cases d <;> first | rfl | (simp only; unfold maO3; split <;> simp_all)
@[simp] theorem z_ma : maO i k Mu ds e1 (some xs) = maO2 i k Mu ds xs e1 xs[k]? := (Eq.refl _).trans (Eq.refl _)
@[simp] theorem z_ma2 : maO2 i k Mu ds xs e1 (some (.own ys)) = maO3 i k xs e1 (Mu ys ds) := (Eq.refl _).trans (Eq.refl _)
@[simp] theorem z_ma3 : maO3 i k xs e1 (some (d, ys)) = if noBor d = true ∧ noBorL (xs.set k (.own ys)) = true then .ok d (e1.set i (some (.own (xs.set k (.own ys))))) else .bad := (Eq.refl _).trans (Eq.refl _)
def qeO (d e : D) : Option D := if lay d = true ∧ lay e = true then some (.bl (eqD d e)) else none
def qnO (d e : D) : Option D := if lay d = true ∧ lay e = true then some (.bl (!eqD d e)) else none
@[simp] theorem z_eqbor (e : D) : fEq env [.bor i, e] = qeO (sub env (.bor i)) (sub env e) := by
  unfold fEq fEqB qeO
  simp only [scalD, flat, Bool.false_and, Bool.false_eq_true, if_false]
  split <;> rfl
@[simp] theorem z_nebor (e : D) : fNe env [.bor i, e] = qnO (sub env (.bor i)) (sub env e) := by
  unfold fNe fEqB qnO
  simp only [scalD, flat, Bool.false_and, Bool.false_eq_true, if_false]
  split <;> rfl
@[simp] theorem z_eqown (e : D) : fEq env [.own xs, e] = qeO (sub env (.own xs)) (sub env e) := by
  unfold fEq fEqB qeO
  simp only [scalD, flat, Bool.false_and, Bool.false_eq_true, if_false]
  split <;> rfl
@[simp] theorem z_neown (e : D) : fNe env [.own xs, e] = qnO (sub env (.own xs)) (sub env e) := by
  unfold fNe fEqB qnO
  simp only [scalD, flat, Bool.false_and, Bool.false_eq_true, if_false]
  split <;> rfl
@[simp] theorem z_nelst (e : D) : fNe env [.lst xs, e] = qnO (sub env (.lst xs)) (sub env e) := by
  unfold fNe fEqB qnO
  simp only [scalD, flat, Bool.false_and, Bool.false_eq_true, if_false]
  split <;> rfl
theorem qe_same {d e : D} {P : PyData} (h1 : py d = P) (h2 : py e = P) (hc : P.canLay0 = true) (hd : P.depth ≤ 64) : qeO d e = some (.bl true) ∧ qnO d e = some (.bl false) := by
  have l : SeqAt.shaped P = true := by unfold SeqAt.shaped; rw [hc, decide_eq_true hd]; rfl
  have r := SeqAt.eqv_refl P hc
  unfold qeO qnO lay eqD
  rw [h1, h2, l, r]
  exact ⟨rfl, rfl⟩
@[simp] theorem z_repr : fRepr env [d] = if reprOk (py (sub env d)) = true then some (.str (py (sub env d)).shown) else none := (Eq.refl _).trans (Eq.refl _)
def adO (a b : Option (List D)) : Option D := match a, b with
  | some xs, some ys => if plainL xs = true ∧ plainL ys = true ∧ xs.length + ys.length ≤ sizeLine then some (.own (xs ++ ys)) else none
  | _, _ => none
@[simp] theorem z_addow : fAdd env [.own xs, d] = adO (some xs) (rdM env d) := by
  have : fAdd env [.own xs, d] = match rdM env (.own xs), rdM env d with
    | some xs, some ys => if plainL xs = true ∧ plainL ys = true ∧ xs.length + ys.length ≤ sizeLine then some (.own (xs ++ ys)) else none
    | _, _ => match rdT env (.own xs), rdT env d with
      | some xs, some ys => if plainL xs = true ∧ plainL ys = true ∧ xs.length + ys.length ≤ sizeLine then some (.tup (xs ++ ys)) else none
      | _, _ => none := by cases d <;> rfl
  rw [this]
  have e : rdM env (.own xs) = some xs := rfl
  rw [e]
  cases rdM env d with
  | some ys => rfl
  | none => rfl
@[simp] theorem z_ad : adO (some xs) (some ys) = if plainL xs = true ∧ plainL ys = true ∧ xs.length + ys.length ≤ sizeLine then some (.own (xs ++ ys)) else none := (Eq.refl _).trans (Eq.refl _)
theorem z_addbm (h : rdM env (.bor i) = some xs) : fAdd env [.bor i, d] = adO (some xs) (rdM env d) ∨ rdM env d = none := by
  have : fAdd env [.bor i, d] = match rdM env (.bor i), rdM env d with
    | some xs, some ys => if plainL xs = true ∧ plainL ys = true ∧ xs.length + ys.length ≤ sizeLine then some (.own (xs ++ ys)) else none
    | _, _ => match rdT env (.bor i), rdT env d with
      | some xs, some ys => if plainL xs = true ∧ plainL ys = true ∧ xs.length + ys.length ≤ sizeLine then some (.tup (xs ++ ys)) else none
      | _, _ => none := by cases d <;> rfl
  rw [this, h]
  cases rdM env d with
  | some ys => exact .inl rfl
  | none => exact .inr rfl
@[simp] theorem z_rdM : rdM env d = (rd env d).bind seqM := (Eq.refl _).trans (Eq.refl _)
@[simp] theorem z_sqMo : seqM (.own xs) = some xs := (Eq.refl _).trans (Eq.refl _)
@[simp] theorem z_sqMl : seqM (.lst xs) = some xs := (Eq.refl _).trans (Eq.refl _)
end
end Dn
namespace Dn
open PySem PySem.Spec L2
@[simp] theorem z_addbo (env : Env) (i : Nat) (ys : List D) : fAdd env [.bor i, .own ys] = adO (rdM env (.bor i)) (some ys) := by
  have : fAdd env [.bor i, .own ys] = match rdM env (.bor i), rdM env (.own ys) with
    | some xs, some ys => if plainL xs = true ∧ plainL ys = true ∧ xs.length + ys.length ≤ sizeLine then some (.own (xs ++ ys)) else none
    | _, _ => match rdT env (.bor i), rdT env (.own ys) with
      | some xs, some ys => if plainL xs = true ∧ plainL ys = true ∧ xs.length + ys.length ≤ sizeLine then some (.tup (xs ++ ys)) else none
      | _, _ => none := rfl
  rw [this]
  have e : rdM env (.own ys) = some ys := rfl
  have e2 : rdT env (.own ys) = none := rfl
  rw [e, e2]
  cases rdM env (.bor i) with
  | some xs => rfl
  | none => cases rdT env (.bor i) <;> rfl
end Dn
namespace Dn
open PySem PySem.Spec L2
section
variable (env e1 : Env) (f g : Env → Out D) (fl fh : Env → Out (Option Int)) (i : Nat) (d c : D) (ds xs ys : List D) (lo hi : Option Int) (o : Option D)
def ixO (env : Env) (c i : D) (o : Option D) : Out D := match o with
  | some d => .ok d env
  | none => match c with
    | .bor j => oO2 (fIx (frzAt env j) [c, i]) (frzAt env j)
    | _ => .bad
@[simp] theorem z_ixF : ixF env c d = ixO env c d (fIx env [c, d]) := by
  unfold ixF ixO
  cases fIx env [c, d] with
  | some _ => rfl
  | none => cases c <;> first | rfl | (simp only; unfold oO2; split <;> simp_all)
@[simp] theorem z_ixO1 (xs' : D) : ixO env c d (some xs') = .ok xs' env := (Eq.refl _).trans (Eq.refl _)
@[simp] theorem z_ixO2 (j : Nat) : ixO env (.bor j) d none = oO2 (fIx (frzAt env j) [.bor j, d]) (frzAt env j) := (Eq.refl _).trans (Eq.refl _)
def ixF0 (o : Out (List D)) : Out D := o.bind fun ds env1 => ixF1 ds env1
@[simp] theorem z_dixF : dIxF f g env = ixF0 (dCons f (dCons g dNil) env) := (Eq.refl _).trans (Eq.refl _)
@[simp] theorem z_ixF0 : ixF0 (.ok ds e1) = ixF1 ds e1 := (Eq.refl _).trans (Eq.refl _)
@[simp] theorem z_ixF1 : ixF1 [c, d] e1 = ixF e1 c d := (Eq.refl _).trans (Eq.refl _)
@[simp] theorem z_plno : plO none = none := (Eq.refl _).trans (Eq.refl _)
def psO4 (i : Nat) (ys : List D) (lo hi : Option Int) (env4 : Env) (o : Option (List D)) : SOut := match o with
  | some xs => if cutI xs.length lo ≤ cutJ xs.length hi ∧ xs.length + ys.length ≤ sizeLine ∧ noBorL (xs.take (cutI xs.length lo) ++ ys ++ xs.drop (cutJ xs.length hi)) = true then .nx (env4.set i (some (.own (xs.take (cutI xs.length lo) ++ ys ++ xs.drop (cutJ xs.length hi))))) else .bad
  | none => .bad
def psO3 (i : Nat) (ys : List D) (lo : Option Int) (o : Out (Option Int)) : SOut := match o with
  | .ok hi env4 => psO4 i ys lo hi env4 (ownAt env4 i)
  | _ => .bad
def psO2 (i : Nat) (ys : List D) (fh : Env → Out (Option Int)) (o : Out (Option Int)) : SOut := match o with
  | .ok lo env3 => psO3 i ys lo (fh env3)
  | _ => .bad
def psO1 (i : Nat) (fl fh : Env → Out (Option Int)) (o : Option (D × Env)) : SOut := match o with
  | some (.own ys, env2) => if (ownAt env2 i).isSome = true then psO2 i ys fh (fl env2) else .bad
  | _ => .bad
def psO (i : Nat) (fl fh : Env → Out (Option Int)) (o : Out D) : SOut := liftE o fun d env1 => psO1 i fl fh (mv d env1)
@[simp] theorem z_putSl : dPutSl i f fl fh env = psO i fl fh (f env) := by
  unfold dPutSl psO
  cases f env with
  | ok d e =>
    simp only [liftE]
    cases mv d e with
    | none => rfl
    | some q =>
      obtain ⟨d', e2⟩ := q
      cases d' with
      | own ys =>
        simp only [psO1]
        split
        · cases fl e2 with
          | ok lo e3 =>
            simp only [psO2]
            cases fh e3 with
            | ok hi e4 =>
              simp only [psO3]
              cases ownAt e4 i with
              | none => rfl
              | some xs => rfl
            | _ => rfl
          | _ => rfl
        · rfl
      | _ => rfl
  | _ => rfl
@[simp] theorem z_ps : psO i fl fh (.ok d e1) = psO1 i fl fh (mv d e1) := (Eq.refl _).trans (Eq.refl _)
@[simp] theorem z_ps1 : psO1 i fl fh (some (.own ys, e1)) = if (ownAt e1 i).isSome = true then psO2 i ys fh (fl e1) else .bad := (Eq.refl _).trans (Eq.refl _)
@[simp] theorem z_ps2 : psO2 i ys fh (.ok lo e1) = psO3 i ys lo (fh e1) := (Eq.refl _).trans (Eq.refl _)
@[simp] theorem z_ps3 : psO3 i ys lo (.ok hi e1) = psO4 i ys lo hi e1 (ownAt e1 i) := (Eq.refl _).trans (Eq.refl _)
@[simp] theorem z_ps4 : psO4 i ys lo hi e1 (some xs) = if cutI xs.length lo ≤ cutJ xs.length hi ∧ xs.length + ys.length ≤ sizeLine ∧ noBorL (xs.take (cutI xs.length lo) ++ ys ++ xs.drop (cutJ xs.length hi)) = true then .nx (e1.set i (some (.own (xs.take (cutI xs.length lo) ++ ys ++ xs.drop (cutJ xs.length hi))))) else .bad := (Eq.refl _).trans (Eq.refl _)
end
end Dn
/-! Dn29: dicts with texts and ints as keys; defs that call themselves. -/
namespace Dn
open PySem PySem.Spec L2

/-! ### displays of constants -/
structure DPc (X : Cx) (pos : Pos) (keys : List (Option Expr)) (values : List Expr) (kvs : List (Key × V)) (ds : List D) : Prop where
  run : PPs X pos keys values (kvs.map fun q => (tC (kV q.1), tC q.2))
  own : ∀ K mg S σ H, OwL K mg S σ H [] (kvs.map (·.2)) ds
section
variable {X : Cx} {W : WX} {pos : Pos} {keys : List (Option Expr)} {values : List Expr} {kvs : List (Key × V)} {ds : List D}
theorem dpc_nil : DPc X pos [] [] [] [] := ⟨pps_nil, fun _ _ _ _ _ => .nil⟩
theorem dpc_cons {k v : Expr} {q : Key} {u : V} {d : D} (hk : PE X k (tC (kV q))) (hv : PE X v (tC u)) (ho : ∀ K mg S σ H, Ow K mg S σ H [] u d) (h : DPc X pos keys values kvs ds) : DPc X pos (some k :: keys) (v :: values) ((q, u) :: kvs) (d :: ds) :=
  ⟨pps_cons hk hv h.run, fun K mg S σ H => OwL.cons (A := []) (B := []) (ho K mg S σ H) (h.own K mg S σ H) (by simp)⟩
theorem dpc_ss {x y : Str} {j j2 p p2} (h : DPc X pos keys values kvs ds) : DPc X pos (some (.Constant (.str x) j p) :: keys) (.Constant (.str y) j2 p2 :: values) ((.inr x, .str y) :: kvs) (.str y :: ds) := dpc_cons pe_str pe_str (fun _ _ _ _ _ => .str y) h
theorem dpc_si {x : Str} {y : Int} {j j2 p p2} (h : DPc X pos keys values kvs ds) : DPc X pos (some (.Constant (.str x) j p) :: keys) (.Constant (.int y) j2 p2 :: values) ((.inr x, .int y) :: kvs) (.int y :: ds) := dpc_cons pe_str pe_int (fun _ _ _ _ _ => .int y) h
theorem tPairs_c {σ : St} {H : Hp} : ∀ (kvs : List (Key × V)) (Q : List (V × V) → Hp → Prop), Q (kvs.map fun q => (kV q.1, q.2)) H → tPairs (kvs.map fun q => (tC (kV q.1), tC q.2)) σ H Q
  | [], _, h => h
  | q :: kvs, Q, h => tPairs_c kvs (fun ps H3 => Q ((kV q.1, q.2) :: ps) H3) h
theorem merge_new : ∀ (more acc : List (Key × V)), (more.map (·.1)).Nodup → (∀ q ∈ more, q.1 ∉ acc.map (·.1)) → mergeK acc more = acc ++ more
  | [], acc, _, _ => (List.append_nil acc).symm
  | q :: more, acc, nd, na => by
    rw [List.map_cons, List.nodup_cons] at nd
    have e : putK acc q.1 q.2 = acc ++ [q] := by
      unfold putK
      rw [if_neg]
      intro z
      obtain ⟨r, h1, h2⟩ := List.any_eq_true.mp z
      exact na q List.mem_cons_self (by rw [← of_decide_eq_true h2]; exact List.mem_map_of_mem h1)
    show mergeK (putK acc q.1 q.2) more = _
    rw [e, merge_new more _ nd.2, List.append_assoc]
    · rfl
    · intro r hr z
      rw [List.map_append, List.mem_append] at z
      rcases z with z | z
      · exact na r (List.mem_cons_of_mem _ hr) z
      · have : r.1 = q.1 := by simpa using z
        exact nd.1 (by rw [← this]; exact List.mem_map_of_mem hr)
theorem zip_fs {α β : Type} : ∀ l : List (α × β), (l.map (·.1)).zip (l.map (·.2)) = l
  | [] => rfl
  | q :: l => by rw [List.map_cons, List.map_cons, List.zip_cons_cons, zip_fs l]
theorem SE.laid {env : Env} {T : Addr → Prop} {A : Nat → List Addr} {σ : St} {H : Hp} {Q : VK} {p : Addr} {u : HO} {H' : Hp} {d : D} (I : EnvOk X.K X.mg T env σ H A) (h : WD X W T A σ H (.ok d env) Q) (np : H p = none) (e : H' p = some u) (ke : ∀ b, b ≠ p → H' b = H b) (o : Ow X.K X.mg (SA A (TB T [p])) σ H' [p] (.ref p) d) : Q (.ref p) H' := by
  have kp : ∀ b o, H b = some o → H' b = some o := fun b o e' => by
    rw [ke b fun z => by rw [z, np] at e'; cases e']
    exact e'
  have nb : ∀ b ∈ [p], H b = none := fun b hb => by rw [List.mem_singleton.mp hb]; exact np
  exact h (.ref p) H' A [p] (Moved.grown kp nb) (I.grow kp nb fun b hb => by rw [List.mem_singleton.mp hb, e]; simp) o
theorem se_disp (own : ∀ K mg S σ H, OwL K mg S σ H [] (kvs.map (·.2)) ds) (nd : (kvs.map (·.1)).Nodup) (h15 : kvs.length ≤ 15) : SE X W (tDisp (kvs.map fun q => (tC (kV q.1), tC q.2))) (dC (.odic (kvs.map (·.1)) ds)) := fun T env σ H A Q I h p np =>
  tPairs_c kvs _ ⟨upd_same, kvs, rfl, h15, by
    have em := merge_new kvs [] nd (fun _ _ z => by cases z)
    rw [List.nil_append] at em
    rw [em]
    refine SE.laid I h np upd_same (fun b nb => by rw [upd_ne nb, upd_ne nb]) ?_
    exact Ow.odic (A := []) (by rw [upd_same, zip_fs]) (by rw [List.length_map, List.length_map]) (by simp) (own _ _ _ _ _)⟩
theorem de_disp (h : DPc X pos keys values kvs ds) (nd : (kvs.map (·.1)).Nodup := by decide +kernel) (hall : keys.all (·.isSome) = true := by rfl) (hl : keys.length = values.length := by rfl) (h0 : keys ≠ [] := by simp) (h15 : keys.length ≤ 15 := by decide) (hk : kvs.length ≤ 15 := by decide) :
    DE X W (.Dict keys values pos) (dC (.odic (kvs.map (·.1)) ds)) := ⟨_, pe_disp h.run hall hl h0 h15, se_disp h.own nd hk⟩
theorem de_dnew : DE X W (.Dict [] [] pos) (dC (.odic [] [])) := ⟨_, pe_dnewK, fun T env σ H A Q I h p np =>
  SE.laid I h np upd_same (fun b nb => upd_ne nb) (Ow.odic (A := []) upd_same rfl (by simp) .nil)⟩
end

/-! ### d.get(k) -/
def dicAt (env : Env) (i : Nat) : Option (List Key × List D) := match env[i]? with
  | some (some (.odic ks ds)) => some (ks, ds)
  | some (some (.dic ks ds)) => some (ks, ds)
  | _ => none
def dGet (i : Nat) (fk : Env → Out D) : Env → Out D := fun env => if (dicAt env i).isSome = true then (fk env).bind fun kd env1 => match keyD kd, dicAt env1 i with
    | some k, some (ks, ds) => (match lookK ks ds k with
      | some d => if plain d = true then .ok d env1 else .bad
      | none => .ok .non env1)
    | _, _ => .bad
  else .bad
section
variable {X : Cx} {W : WX} {fx : Nat → Bool}
theorem EnvOk.dicAt {K : PySem.W.Frag} {mg : Str → Option Value} {T : Addr → Prop} {env : Env} {σ : St} {H : Hp} {A : Nat → List Addr} {i : Nat} {ks : List Key} {ds : List D} (I : EnvOk K mg T env σ H A) (h : dicAt env i = some (ks, ds)) :
    ∃ a vs B, σ[i]? = some (some (.ref a)) ∧ H a = some (.dK (ks.zip vs)) ∧ ks.length = vs.length ∧ OwL K mg (SA A T) σ H B vs ds := by
  unfold Dn.dicAt at h
  split at h
  · rename_i e
    cases h
    obtain ⟨_, v, s, o⟩ := I.slot i _ e
    generalize A i = G at o
    cases o with
    | odic e g n l => exact ⟨_, _, _, s, e, g, l⟩
  · rename_i e
    cases h
    obtain ⟨_, v, s, o⟩ := I.slot i _ e
    generalize A i = G at o
    cases o with
    | dic e l => exact ⟨_, _, _, s, e.2.1, e.2.2, l⟩
  · cases h
theorem look_none : ∀ {ks : List Key} {ds : List D} {vs : List V} {k : Key}, lookK ks ds k = none → ds.length = vs.length → valV (ks.zip vs) k = none
  | [], _, _, _, _, _ => rfl
  | q :: ks, [], [], _, _, _ => rfl
  | q :: ks, d :: ds, v :: vs, k, h, hl => by
    unfold lookK at h
    rw [List.zip_cons_cons, List.find?_cons] at h
    by_cases e : q = k
    · simp [e] at h
    · simp only [e, decide_false] at h
      rw [List.zip_cons_cons, valV_neg e]
      exact look_none h (by simpa using hl)
theorem se_dget {i : Nat} {tk : TE} {fk : Env → Out D} (hk : SE X W tk fk) : SE X W (tDGet1 (tVar i) tk) (dGet i fk) := fun T env σ H A Q I h => by
  unfold dGet at h
  split at h
  · rename_i h0
    obtain ⟨⟨ks0, ds0⟩, h0⟩ := Option.isSome_iff_exists.mp h0
    obtain ⟨a, vs0, _, s0, e0, _, _⟩ := I.dicAt h0
    refine ⟨_, s0, a, rfl, .inl ⟨_, .inl e0⟩, hk T env σ H A _ I ?_⟩
    cases ek : fk env with
    | bad => rw [ek] at h; exact h
    | err x env1 => rw [ek] at h; exact h
    | ok kd env1 =>
      rw [ek, Out.bind_ok] at h
      intro kv H1 A1 B1 m1 I1 o1
      split at h
      · rename_i k ks ds e1 e2
        obtain ⟨a', vs, B', s', ea, hl, ol⟩ := I1.dicAt e2
        rw [s0] at s'
        cases s'
        have ev := keyD_V o1 e1
        subst ev
        split at h
        · rename_i d el
          split at h
          · rename_i hp
            obtain ⟨v, B2, hv, ov⟩ := look_at ol el hl
            have z := ov.bare hp
            subst z
            exact ⟨some v, by rw [← hv]; exact DGet.k ea, h v H1 A1 [] (m1.fewer fun p z => by cases z) (I1.drop.weak tbn) (ov.weak sa_sub)⟩
          · exact h.elim
        · rename_i el
          have hv := look_none el (k := k) (vs := vs) ol.length.symm
          exact ⟨none, by rw [← hv]; exact DGet.k ea, h .non H1 A1 [] (m1.fewer fun p z => by cases z) (I1.drop.weak tbn) .non⟩
      · exact h.elim
  · exact h.elim
theorem de_dget {j : Nat} (Z : Sit X W j) (i : Nat) {x : Str} {p apos cpos : Pos} {e : Expr} {fk : Env → Out D} (he : DE X W e fk) (hN : X.N[i]? = some x := by rfl) (hv : Vis X.env.scope x := by first | exact Or.inl rfl | exact Or.inr (Or.inl rfl) | exact Or.inr (Or.inr rfl))
    (hb : attributeBase (.Name x p) "get" X.env (eval (.Name x p) X.env) = eval (.Name x p) X.env := by rfl)
    (hfew : ((backTo cpos (starEach [e] X.env)).all (fun x => !x.1) && (backToKw cpos (keywordEach [] X.env)).all (fun x => x.1.isSome)
    && decide (([e] : List Expr).length + ([] : List Keyword).length + (if ([] : List Keyword).isEmpty then 0 else 1) < 30)) = true := by rfl)
    (hl : (apos.endLine == cpos.line) = true := by rfl) (ht : backTo cpos (starEach [e] X.env) = [(false, eval e X.env)] := by rfl) (hd : (x == ("__debug__" : Str)) = false := by decide) (hcd : (x == ("__classdict__" : Str)) = false := by decide) :
    DE X W (.Call (.Attribute (.Name x p) "get" apos) [e] [] cpos) (dGet i fk) := let ⟨_, a, b⟩ := he; ⟨_, pe_dget1 (Nat.lt_of_le_of_lt (Nat.add_le_add_left (by decide : 1 ≤ 64) _) Z.room.units) (pe_var hN hv hd hcd) a ⟨hb, hfew, hl, ht⟩, se_dget b⟩
end

/-! ### d[k] = v -/
def hasK (ks : List Key) (k : Key) : Bool := ks.any fun q => decide (q = k)
def putKs (ks : List Key) (k : Key) : List Key := if hasK ks k = true then ks else ks ++ [k]
def repK {α : Type} (k : Key) (x : α) : List Key → List α → List α
  | q :: ks, y :: ys => (if q = k then x else y) :: repK k x ks ys
  | _, _ => []
def putVs {α : Type} (ks : List Key) (xs : List α) (k : Key) (x : α) : List α := if hasK ks k = true then repK k x ks xs else xs ++ [x]
theorem rep_len {α : Type} {k : Key} {x : α} : ∀ (ks : List Key) (xs : List α), ks.length = xs.length → (repK k x ks xs).length = xs.length
  | [], [], _ => rfl
  | q :: ks, y :: ys, h => by rw [repK, List.length_cons, List.length_cons, rep_len ks ys (by simpa using h)]
theorem rep_zip {k : Key} {v : V} : ∀ (ks : List Key) (vs : List V), (ks.zip vs).map (fun kv => if kv.1 = k then (kv.1, v) else kv) = ks.zip (repK k v ks vs)
  | [], _ => rfl
  | q :: ks, [] => rfl
  | q :: ks, u :: vs => by
    rw [List.zip_cons_cons, List.map_cons, repK, List.zip_cons_cons, rep_zip ks vs]
    by_cases e : q = k <;> simp [e]
theorem any_zip {k : Key} : ∀ {ks : List Key} {vs : List V}, ks.length = vs.length → ((ks.zip vs).any fun kv => decide (kv.1 = k)) = hasK ks k
  | [], [], _ => rfl
  | q :: ks, u :: vs, h => by
    rw [List.zip_cons_cons, List.any_cons, any_zip (by simpa using h)]
    rfl
theorem zip_snoc {α β : Type} {a : α} {b : β} : ∀ {as : List α} {bs : List β}, as.length = bs.length → (as ++ [a]).zip (bs ++ [b]) = as.zip bs ++ [(a, b)]
  | [], [], _ => rfl
  | x :: as, y :: bs, h => by
    rw [List.cons_append, List.cons_append, List.zip_cons_cons, zip_snoc (by simpa using h), List.zip_cons_cons, List.cons_append]
theorem put_zip {k : Key} {v : V} {ks : List Key} {vs : List V} (h : ks.length = vs.length) : putK (ks.zip vs) k v = (putKs ks k).zip (putVs ks vs k v) ∧ (putKs ks k).length = (putVs ks vs k v).length := by
  unfold putK putKs putVs
  by_cases e : hasK ks k = true
  · rw [any_zip h, if_pos e, if_pos e, if_pos e, rep_zip, rep_len ks vs h]
    exact ⟨rfl, h⟩
  · rw [any_zip h, if_neg e, if_neg e, if_neg e, zip_snoc h]
    exact ⟨rfl, by rw [List.length_append, List.length_append, h]; rfl⟩
theorem OwL.repK1 {K : PySem.W.Frag} {mg : Str → Option Value} {S : Addr → Prop} {σ : St} {H : Hp} {k : Key} {v : V} {d : D} (o : Ow K mg S σ H [] v d) : ∀ {ks : List Key} {B : List Addr} {vs : List V} {ds : List D}, OwL K mg S σ H B vs ds → B = [] → OwL K mg S σ H [] (repK k v ks vs) (repK k d ks ds)
  | [], _, _, _, _, _ => .nil
  | q :: ks, _, _, _, .nil, _ => .nil
  | q :: ks, _, _, _, .cons (A := A) (B := B) a b n, e => by
    obtain ⟨e1, e2⟩ := List.append_eq_nil_iff.mp e
    subst e1 e2
    rw [repK, repK]
    refine OwL.cons (A := []) (B := []) ?_ (b.repK1 o rfl) (by simp)
    by_cases z : q = k
    · rw [if_pos z, if_pos z]; exact o
    · rw [if_neg z, if_neg z]; exact a
theorem OwL.putK1 {K : PySem.W.Frag} {mg : Str → Option Value} {S : Addr → Prop} {σ : St} {H : Hp} {k : Key} {v : V} {d : D} {ks : List Key} {vs : List V} {ds : List D} (o : Ow K mg S σ H [] v d) (l : OwL K mg S σ H [] vs ds) : OwL K mg S σ H [] (putVs ks vs k v) (putVs ks ds k d) := by
  unfold putVs
  by_cases e : hasK ks k = true
  · rw [if_pos e, if_pos e]; exact l.repK1 o rfl
  · rw [if_neg e, if_neg e]
    obtain ⟨C, h1, h2⟩ := l.append (OwL.cons (A := []) (B := []) o .nil (by simp)) (by simp)
    have : C = [] := by
      cases C with
      | nil => rfl
      | cons p C =>
        have := (h2 p).mp List.mem_cons_self
        simp at this
    rw [this] at h1
    exact h1
def odicAt (env : Env) (i : Nat) : Option (List Key × List D) := match env[i]? with
  | some (some (.odic ks ds)) => some (ks, ds)
  | _ => none
theorem odicAt_some {env : Env} {i : Nat} {ks : List Key} {ds : List D} (h : odicAt env i = some (ks, ds)) : env[i]? = some (some (.odic ks ds)) := by
  unfold odicAt at h
  split at h
  · cases h; assumption
  · cases h
def dPutK (i : Nat) (fv fk : Env → Out D) : Env → SOut := fun env => liftE (fv env) fun d env1 => match mv d env1 with
  | some (d', env2) => if plain d' = true ∧ (odicAt env2 i).isSome = true then liftE (fk env2) fun kd env3 => match keyD kd, odicAt env3 i with
      | some k, some (ks, ds) => if plainL ds = true ∧ ks.length < sizeLine then .nx (env3.set i (some (.odic (putKs ks k) (putVs ks ds k d')))) else .bad
      | _, _ => .bad
    else .bad
  | none => .bad
theorem noBor_rep {k : Key} {d : D} (hd : noBor d = true) : ∀ {ks : List Key} {ds : List D}, noBorL ds = true → noBorL (repK k d ks ds) = true
  | [], _, _ => rfl
  | q :: ks, [], _ => rfl
  | q :: ks, e :: ds, h => by
    simp only [noBorL, Bool.and_eq_true] at h
    rw [repK, noBorL, noBor_rep hd h.2]
    by_cases z : q = k
    · simp [z, hd]
    · simp [z, h.1]
theorem noBor_app : ∀ {a b : List D}, noBorL a = true → noBorL b = true → noBorL (a ++ b) = true
  | [], _, _, h => h
  | x :: a, b, h, g => by
    simp only [noBorL, Bool.and_eq_true] at h
    rw [List.cons_append, noBorL, h.1, noBor_app h.2 g]; rfl
theorem noBor_put {k : Key} {d : D} {ks : List Key} {ds : List D} (hd : noBor d = true) (h : noBorL ds = true) : noBorL (putVs ks ds k d) = true := by
  unfold putVs
  split
  · exact noBor_rep hd h
  · exact noBor_app h (by simp [noBorL, hd])
section
variable {X : Cx} {W : WX} {fx : Nat → Bool}
theorem ss_putK {i : Nat} {te tk : TE} {f fk : Env → Out D} (hf : SE X W te f) (hk : SE X W tk fk) : SS X W fx (tAsg te (gSub (tVar i) tk rSetD)) (dPutK i f fk) := fun T env σ H A N I h => by
  refine hf T env σ H A _ I (h.lift fun d env1 e w v H1 A1 B1 m1 I1 o1 => ?_)
  cases em : mv d env1 with
  | none => rw [em] at w; exact w.elim
  | some q =>
    obtain ⟨d', env2⟩ := q
    rw [em] at w
    simp only at w
    obtain ⟨A2, I2, o2, n2, s2⟩ := mv_ok I1 o1 em
    split at w
    · rename_i h0
      obtain ⟨hp, h0⟩ := h0
      have z := o2.bare hp
      subst z
      obtain ⟨⟨ks0, ds0⟩, h0⟩ := Option.isSome_iff_exists.mp h0
      have g0 : dicAt env2 i = some (ks0, ds0) := by
        have := odicAt_some h0
        unfold dicAt; rw [this]
      have I2 : EnvOk X.K X.mg T env2 σ H1 A2 := I2.drop
      obtain ⟨l, vs0, _, s0, e0, _, _⟩ := I2.dicAt g0
      have m2 : Moved A A2 [] H H1 := ⟨m1.keep, fun p z => m1.new p (z.imp id fun ⟨j, z⟩ => ⟨j, s2 j p z⟩)⟩
      refine ⟨_, s0, hk T env2 σ H1 A2 _ I2 ?_⟩
      cases ek : fk env2 with
      | bad => rw [ek] at w; exact w
      | err x env3 =>
        rw [ek] at w
        exact fun H3 A3 m3 I3 => w σ H3 A3 (m2.trans m3 fun p z => by cases z) I3 .refl
      | ok kd env3 =>
        rw [ek] at w
        intro kv H3 A3 B3 m3 I3 o3
        have w' := w
        unfold liftE at w'
        simp only at w'
        split at w'
        · rename_i k ks ds ek2 ex
          split at w'
          · rename_i hpl
            obtain ⟨pl, hsz⟩ := hpl
            have ev := keyD_V o3 ek2
            subst ev
            have I4 : EnvOk X.K X.mg T env3 σ H3 A3 := I3.drop
            obtain ⟨_, u, su, ou⟩ := I4.slot i _ (odicAt_some ex)
            generalize hA : A3 i = G at ou
            cases ou with
            | @odic l' G' _ vs _ e' hl nG ol =>
              rw [s0] at su
              cases su
              have zG := ol.bare pl
              subst zG
              have lA : l ∈ A3 i := by rw [hA]; exact List.mem_cons_self
              have o2 : Ow X.K X.mg (SA A2 T) σ H1 [] v d' := o2.weak fun p z => z.imp .inl id
              have o4 : Ow X.K X.mg (SA A3 T) σ H3 [] v d' := (o2.move (B' := B3) m3 (fun p hp => by cases hp) fun i p z => I2.sep i p z).weak fun p z => z.imp .inl id
              have ol' := ol.putK1 (k := k) (ks := ks) o4
              obtain ⟨pz, pn⟩ := put_zip (k := k) (v := v) hl
              have own : Ow X.K X.mg (SA (setA A3 i [l]) (TB T [])) σ (upd H3 l (.dK (putK (ks.zip vs) k v))) [l] (.ref l) (.odic (putKs ks k) (putVs ks ds k d')) := by
                refine Ow.odic (A := []) (by rw [upd_same, pz]) pn (by simp) (ol'.chg (Bp := fun _ => False) ⟨fun b o e nb => ?_, fun b _ z => ?_⟩ (fun p hp => by cases hp) fun _ _ e => .inr e)
                · rw [upd_ne fun q => by
                    subst q
                    exact nb.elim (fun z => z (.inr ⟨i, lA⟩)) id]
                  exact e
                · rcases z with z | ⟨j, z⟩
                  · exact .inl (tbn _ z)
                  · by_cases hj : j = i
                    · subst hj
                      rw [setA_same] at z
                      rw [List.mem_singleton.mp z]
                      exact .inr ⟨j, lA⟩
                    · rw [setA_ne hj] at z
                      exact .inr ⟨j, z⟩
              have nb : noBor (.odic (putKs ks k) (putVs ks ds k d')) = true := by
                rw [noBor]
                exact noBor_put n2 (plainL_noBor _ pl)
              have I5 := (changed (G := [l]) (B' := []) I4 (odicAt_some ex) s0 (fun b o e nb => by
                rw [upd_ne fun q => by
                  subst q
                  exact nb lA]
                exact e) (fun p z => by
                  rcases z with z | z
                  · rw [List.mem_singleton.mp z]; exact .inl lA
                  · cases z) (fun p z => by
                  rcases z with z | z
                  · rw [List.mem_singleton.mp z, upd_same]; simp
                  · cases z) (by simp) nb own).weak (T' := T) fun p z => .inl z
              have m4 : Moved A A3 [] H H3 := m2.trans m3 fun p z => by cases z
              refine ⟨l, _, rfl, DPut.k e' (by rw [List.length_zip, hl, Nat.min_self, ← hl]; exact hsz), w' σ _ _ ⟨fun b u e1 nb1 => ?_, fun p z => ?_⟩ I5 .refl⟩
              · have e2 := m4.keep b u e1 nb1
                have nl : b ≠ l := fun z => by
                  subst z
                  rcases m4.new b (.inr ⟨i, lA⟩) with ⟨j, q⟩ | q
                  · exact nb1 j q
                  · rw [e1] at q; cases q
                rw [upd_ne nl]
                exact e2
              · rcases z with z | ⟨j', z⟩
                · cases z
                · by_cases hj : j' = i
                  · subst hj
                    rw [setA_same] at z
                    rw [List.mem_singleton.mp z]
                    exact m4.new l (.inr ⟨j', lA⟩)
                  · rw [setA_ne hj] at z; exact m4.new p (.inr ⟨j', z⟩)
          · exact w'.elim
        · exact w'.elim
    · exact w.elim
theorem ds_putK {jj : Nat} (Z : Sit X W jj) (i : Nat) {x : Str} {px psub pos : Pos} {e ek : Expr} {f fk : Env → Out D} (he : DE X W e f) (hk : DE X W ek fk) (hN : X.N[i]? = some x := by rfl) (hv : Vis X.env.scope x := by first | exact Or.inl rfl | exact Or.inr (Or.inl rfl) | exact Or.inr (Or.inr rfl))
    (ha : ∀ v, assign (.Subscript (.Name x px) ek psub) X.env v = (do
      let ov ← holding [v] (eval (.Name x px) X.env)
      let iv ← holding [v, ov] (eval ek X.env)
      standAt psub
      holding [v, ov, iv] (setItem ov iv v)
      release [v, ov, iv] []) := by intro _; rfl)
    (hs : swapsWithSole [.Subscript (.Name x px) ek psub] e pos.line X.env = pure false := by rfl) (hw : swappedStores [.Subscript (.Name x px) ek psub] e X.env = pure none := by rfl)
    (h1 : (assignEach [.Subscript (.Name x px) ek psub] X.env).map (·.2) = [assign (.Subscript (.Name x px) ek psub) X.env] := by rfl) (hd : (x == ("__debug__" : Str)) = false := by decide) (hcd : (x == ("__classdict__" : Str)) = false := by decide) :
    DS X W fx (.Assign [.Subscript (.Name x px) ek psub] e pos) (dPutK i f fk) := let ⟨_, a, b⟩ := he; let ⟨_, c, d⟩ := hk; ⟨_, ps_asg a (pg_sub (pe_var hN hv hd hcd) c (set_dict (Nat.lt_of_le_of_lt (Nat.add_le_add_left (by decide : 1 ≤ 64) _) Z.room.units)) ha) hs hw h1, ss_putK b d⟩
end

/-! ### defs that call themselves -/
theorem cal_bad {P : Program} {w : World} {K : PySem.W.Frag} {mg : Str → Option Value} {base : Heap} {k : Nat} {x : Str} {st : Stmt} {dvs : List V} {ps : List Str} (d : DefAt K mg x st dvs ps) (n : Nat) : Cal P w K mg base k n x st dvs ps (fun _ => .bad) :=
  let ⟨f, fd, F, hf, b⟩ := d.ex
  ⟨f, fd, ⟨fun _ _ _ _ ⟨_, _, _, _, _, z⟩ => z.elim, fun _ _ _ _ _ _ _ _ _ _ _ _ _ _ ⟨_, _, _, _, _, z⟩ => z.elim⟩, hf, F, b⟩
/-- a def that calls itself, j calls deep -/
def recD (m n : Nat) (fx : Nat → Bool) (g : (List D → Out D) → Env → SOut) : Nat → List D → Out D
  | 0 => fun _ => .bad
  | j + 1 => fnD m n fx (g (recD m n fx g j))
theorem cal_rec {P : Program} {w : World} {K : PySem.W.Frag} {mg : Str → Option Value} {base : Heap} {x : Str} {st : Stmt} {N ps : List Str} {k m n : Nat} {fx : Nat → Bool} {g : (List D → Out D) → Env → SOut} {dvs : List V} (d : DefAt K mg x st dvs ps) (S : FnScope N ps (defScope st)) (hm : N.length = m) (hn : ps.length = n)
    (hb : ∀ j F, Cal P w K mg base (k + j) n x st dvs ps F → ∀ f cdv A outer s H E, Sit (cxD P w K mg base N x (defScope st) f cdv A outer s H E) (wDef E) (k + j) → DSs (cxD P w K mg base N x (defScope st) f cdv A outer s H E) (wDef E) fx (defBody st) (g F)) : ∀ j, Cal P w K mg base (k + j) n x st dvs ps (recD m n fx g j)
  | 0 => cal_bad d n
  | j + 1 => cal_at d S hm hn (hb j _ (cal_rec d S hm hn hb j))
end Dn
/-! Dn30: xs[::k]; items of new things. -/
namespace Dn
open PySem PySem.Spec L2
open PyProof.Rows hiding St

def stepIx (k : Int) (n : Nat) : List Nat := sliceRange (sliceBounds none none (some k) n).1 (sliceBounds none none (some k) n).2.1 (sliceBounds none none (some k) n).2.2
def stepL {α : Type} (k : Int) (xs : List α) : List α := (stepIx k xs.length).filterMap (xs[·]?)
theorem step_pick (k : Int) (its : List Value) : slicePick its.toArray none none (some k) = (stepL k its).toArray := by
  unfold slicePick stepL stepIx
  rw [List.size_toArray]
  congr 1
  refine congrArg (fun f => List.filterMap f _) (funext fun i => ?_)
  simp
theorem Vals.picks {xs : List V} {its : List Value} (r : Vals xs its) : ∀ l : List Nat, Vals (l.filterMap (xs[·]?)) (l.filterMap (its[·]?))
  | [] => .nil
  | i :: l => by
    have gt : ∀ {vs : List V} {ws : List Value}, Vals vs ws → ∀ i : Nat, (∃ v w, vs[i]? = some v ∧ ws[i]? = some w ∧ RelV v w) ∨ (vs[i]? = none ∧ ws[i]? = none) := by
      intro vs ws r
      induction r with
      | nil => exact fun i => .inr ⟨rfl, rfl⟩
      | cons a _ ih =>
        intro i
        cases i with
        | zero => exact .inl ⟨_, _, rfl, rfl, a⟩
        | succ i => exact ih i
    have ih := Vals.picks r l
    rcases gt r i with ⟨v, w, e1, e2, z⟩ | ⟨e1, e2⟩
    · rw [List.filterMap_cons_some e1, List.filterMap_cons_some e2]; exact .cons z ih
    · rw [List.filterMap_cons_none e1, List.filterMap_cons_none e2]; exact ih
theorem step_len {α : Type} (k : Int) (xs : List α) : (stepL k xs).length ≤ xs.length := by
  unfold stepL stepIx
  refine Nat.le_trans (List.length_filterMap_le _ _) (sliceRange_length_le _ _ _ _ (fun hc => ?_) fun hc => ?_)
  · simp only [sliceBounds] at hc ⊢
    simp only [hc, if_true]
    constructor <;> simp
  · simp only [sliceBounds] at hc ⊢
    simp only [hc, if_false]
    constructor <;> simp
def tStepL (K : PySem.W.Frag) (k : Int) (te : TE) : TE := fun σ H Q => te σ H fun x H1 => ∃ a xs, x = .ref a ∧ SqL K H1 a xs ∧ ∀ p, H1 p = none → Q (.ref p) (upd H1 p (.lst (stepL k xs)))
section
variable {X : Cx} {W : WX}
theorem pe_stepL {e est : Expr} {te : TE} {k : Int} {p3 pos : Pos} (he : PE X e te) (hst : ∃ t, PE X est t ∧ ∀ σ H (Q : VK), Q (.int k) H → t σ H Q) (h0 : k ≠ 0)
    (hops : ∀ a b, subscripted (.Slice none none (some est) p3) false (.ref a) (.ref b) = operate [.ref a, .ref b] (getItem (.ref a) (.ref b))) : PE X (.Subscript e (.Slice none none (some est) p3) pos) (tStepL X.K k te) := by
  refine ⟨fun pins s σ H Q I h => ?_⟩
  refine Subscript_ (thn (he.run pins s σ H _ I h) fun v s1 ⟨x, H1, I1, r1, q1⟩ => ?_)
  obtain ⟨a, xs, ex, hx, q⟩ := q1
  subst ex
  cases r1
  obtain ⟨t, pt, ht⟩ := hst
  have hst : PO X (some est) (tPart t) := po_some pt
  refine wpAny_Slice (thn (po_none.run pins s1 σ H1 (fun o H2 => o = none ∧ H2 = H1) I1 ⟨rfl, rfl⟩) fun vl s2 ⟨l, H2, I2, pl, el, e2⟩ => ?_)
  subst el e2
  refine thn (po_none.run pins s2 σ H2 (fun o H3 => o = none ∧ H3 = H2) I2 ⟨rfl, rfl⟩) fun vu s3 ⟨u, H3, I3, pu, eu, e3⟩ => ?_
  subst eu e3
  refine thn (hst.run pins s3 σ H3 (fun o H4 => o = some k ∧ H4 = H3) I3 (ht _ _ _ ⟨k, rfl, rfl, rfl⟩)) fun vs s4 ⟨o, H4, I4, ps, eo, e4⟩ => ?_
  subst eo e4
  have I5 : Inv X pins σ H4 { s4 with heap := s4.heap.push { cls := .type "slice", data := .fields #[vl, vu, vs] } } := I4.kept (t' := s4.toks) fun b ob q => Heap.get?_push_of_some _ q
  obtain ⟨its, r, hl, hz⟩ := I5.list hx
  have hlen := r.length
  show wpAny (model X.prog X.w) X.A (subscriptTail e (.Slice none none (some est) p3) (.ref a) (.ref s4.heap.objs.size)) (EP X pins σ Q) X.xe { s4 with heap := s4.heap.push { cls := .type "slice", data := .fields #[vl, vu, vs] } }
  refine tail_any (ops := [.ref a, .ref s4.heap.objs.size]) hl.isList.typeIs (PySem.slot_list_getitem.lookup) ?_ (hops _ _)
  refine wpAny_getItem_list_slice hl.isList (Heap.IsSliceOf.new _ vl vu vs) pl pu ps (by simpa using h0) ?_ (by rw [List.size_toArray]; omega)
  rw [step_pick]
  refine ⟨.ref _, _, I5.laid (t' := s4.toks) (o := .lst (stepL k xs)) (fun b ob q => Heap.get?_push_of_some _ q) (Nat.le_refl _) ?_, rfl, q _ (I5.hok.fresh (Nat.le_refl _))⟩
  refine ⟨Nat.le_trans (step_len k xs) hz, _, 0, ?_, Heap.get?_push_size _ rfl⟩
  have := Vals.picks r (stepIx k xs.length)
  unfold stepL
  rw [← hlen]
  exact this
def dStep (k : Int) (f : Env → Out D) : Env → Out D := fun env => (f env).bind fun c env1 => match rdL env1 c with
  | some ds => if plainL ds = true then .ok (.own (stepL k ds)) env1 else .bad
  | none => .bad
theorem OwL.picks {K : PySem.W.Frag} {mg : Str → Option Value} {S : Addr → Prop} {σ : St} {H : Hp} {B : List Addr} {vs : List V} {ds : List D} (o : OwL K mg S σ H B vs ds) (h : plainL ds = true) : ∀ l : List Nat, OwL K mg S σ H [] (l.filterMap (vs[·]?)) (l.filterMap (ds[·]?))
  | [] => .nil
  | i :: l => by
    have ih := o.picks h l
    cases e1 : ds[i]? with
    | some d =>
      obtain ⟨v, _, e2, _, _⟩ := o.get e1
      rw [List.filterMap_cons_some e1, List.filterMap_cons_some e2]
      exact OwL.cons (A := []) (B := []) (o.at h e2 e1) ih (by simp)
    | none =>
      have e2 : vs[i]? = none := by
        rw [List.getElem?_eq_none_iff] at e1 ⊢
        rw [o.length]; exact e1
      rw [List.filterMap_cons_none e1, List.filterMap_cons_none e2]
      exact ih
theorem se_stepL {te : TE} {f : Env → Out D} {k : Int} (hf : SE X W te f) : SE X W (tStepL X.K k te) (dStep k f) := fun T env σ H A Q I h => by
  refine hf T env σ H A _ I ?_
  unfold dStep at h
  cases ef : f env with
  | bad => rw [ef] at h; exact h
  | err x env' => rw [ef] at h; exact h
  | ok c env1 =>
    rw [ef, Out.bind_ok] at h
    intro v H1 A1 B1 m1 I1 o1
    split at h
    · rename_i ds e
      split at h
      · rename_i hp
        obtain ⟨c', h1, h2⟩ := Option.bind_eq_some_iff.mp e
        obtain ⟨B', o'⟩ := I1.rd o1 h1
        have sq : ∃ a vs C, v = .ref a ∧ SqL X.K H1 a vs ∧ OwL X.K X.mg (SA A1 (TB T B1)) σ H1 C vs ds := by
          cases c' <;> cases h2
          all_goals cases o'
          · rename_i i l; exact ⟨_, _, _, rfl, i.sq, l⟩
          · rename_i e n l; exact ⟨_, _, _, rfl, .inl (.inl e), l⟩
          · rename_i i l; exact ⟨_, _, _, rfl, i.sq, l⟩
        obtain ⟨a, vs, C, rfl, sq, l⟩ := sq
        refine ⟨a, vs, rfl, sq, fun p np => ?_⟩
        have I2 := I1.drop
        have m2 : Moved A A1 [] H H1 := m1.fewer fun p z => by cases z
        have kp : ∀ b o, H1 b = some o → upd H1 p (.lst (stepL k vs)) b = some o := fun b o e' => by
          rw [upd_ne fun z => by rw [z, np] at e'; cases e']
          exact e'
        have nb : ∀ b ∈ [p], H1 b = none := fun b hb => by rw [List.mem_singleton.mp hb]; exact np
        refine h (.ref p) _ A1 [p] (m2.trans (Moved.grown (A := A1) kp nb) fun p z => .inr (.inl z)) (I2.grow kp nb fun b hb => by rw [List.mem_singleton.mp hb, upd_same]; simp) ?_
        refine Ow.own (A := []) upd_same (by simp) ?_
        have lp := (l.picks hp (stepIx k vs.length)).weak (S' := SA A1 T) fun p z => z.imp (fun z => Or.inl z) id
        have hl := l.length
        unfold stepL
        rw [← hl]
        refine lp.chg (Bp := fun _ => False) ⟨fun b o e' _ => kp b o e', fun b nz z => ?_⟩ (fun p hp => by cases hp) fun _ _ e => .inr e
        rcases z with (z | z) | z
        · exact .inl z
        · exact absurd (nb b z) nz
        · exact .inr z
      · exact h.elim
    · exact h.elim
theorem de_rev {e : Expr} {f : Env → Out D} {j : Nat} {p1 p2 p3 pos : Pos} (he : DE X W e f) : DE X W (.Subscript e (.Slice none none (some (.UnaryOp .USub (.Constant (.int 1) j p1) p2)) p3) pos) (dStep (-1) f) :=
  let ⟨_, a, b⟩ := he; ⟨_, pe_stepL a ⟨_, pe_un un_neg pe_int, fun σ H Q q => ⟨1, rfl, q⟩⟩ (by decide) (fun _ _ => by with_unfolding_all rfl), se_stepL b⟩
theorem de_step {e : Expr} {f : Env → Out D} {k : Int} {j : Nat} {p1 p3 pos : Pos} (he : DE X W e f) (h0 : k ≠ 0 := by decide) : DE X W (.Subscript e (.Slice none none (some (.Constant (.int k) j p1)) p3) pos) (dStep k f) :=
  let ⟨_, a, b⟩ := he; ⟨_, pe_stepL a ⟨_, pe_int, fun σ H Q q => q⟩ h0 (fun _ _ => by with_unfolding_all rfl), se_stepL b⟩
end

/-! ### an item of a new thing, which is frozen first -/
def ixZ1 (ds : List D) (env : Env) : Out D := match fIx env ds with
  | some d => .ok d env
  | none => if noBorL ds = true then (match fIx env (frzL ds) with
    | some d => .ok d env
    | none => .bad) else .bad
def dIxZ (f g : Env → Out D) : Env → Out D := fun env => (dCons f (dCons g dNil) env).bind fun ds env1 => ixZ1 ds env1
section
variable {X : Cx} {W : WX}
theorem se_ixZ {ta tb : TE} {r : R2} {f g : Env → Out D} (ha : SE X W ta f) (hb : SE X W tb g) (hr : PureR X (r2 r) fIx) : SE X W (tOp r ta tb) (dIxZ f g) := fun T env σ H A Q I h => by
  have main : tCB (r2 r) (tCons ta (tCons tb tNil)) σ H Q := by
    refine (sl_cons ha (sl_cons hb sl_nil)) T env σ H A _ I ?_
    unfold dIxZ at h
    cases e : dCons f (dCons g dNil) env with
    | bad => rw [e] at h; exact h
    | err x env' => rw [e] at h; exact h
    | ok ds env1 =>
      rw [e, Out.bind_ok] at h
      intro vs H1 A1 B1 m1 I1 o1
      unfold ixZ1 at h
      split at h
      · rename_i d ef
        refine hr T env1 σ H1 A1 B1 vs _ d Q I1 o1 ef fun v H' B' k nb o => ?_
        exact h v H' A1 B' (m1.trans (Moved.grown (A := A1) k nb) fun p z => .inr (.inl z)) (I1.drop.grow k nb fun p z => o.there p z) o
      · split at h
        · rename_i hn
          split at h
          · rename_i d ef
            have I2 : EnvOk X.K X.mg (TB T []) env1 σ H1 A1 := I1.drop.weak tbn
            have o2 : OwL X.K X.mg (SA A1 (TB T [])) σ H1 [] vs (frzL ds) := o1.frz (fun p z => z.imp (fun z => z.imp id fun z => by cases z) id) fun p hp z => by
              rcases z with z | ⟨i, z⟩
              · exact Moved.sepB I m1 p hp (tbn _ z)
              · exact I1.sep i p z (.inr hp)
            have m2 : Moved A A1 [] H H1 := m1.fewer fun p z => by cases z
            refine hr T env1 σ H1 A1 [] vs _ d Q I2 o2 ef fun v H' B' k nb o => ?_
            exact h v H' A1 B' (m2.trans (Moved.grown (A := A1) k nb) fun p z => .inr (.inl z)) (I1.drop.grow k nb fun p z => o.there p z) o
          · exact h.elim
        · exact h.elim
  exact main
theorem de_ixZ {k : Nat} {a b : Expr} {pos : Pos} {f g : Env → Out D} (Z : Sit X W k) (ha : DE X W a f) (hb : DE X W b g) (hs : PlainIx b) : DE X W (.Subscript a b pos) (dIxZ f g) := by
  obtain ⟨t, p, s⟩ := ha
  obtain ⟨u, p', s'⟩ := hb
  exact ⟨_, pe_ix (ix_str.or ((ix_dict (Nat.lt_of_le_of_lt (Nat.add_le_add_left (by decide : 1 ≤ 64) _) Z.room.units)).or (ix_list.or ix_tup))) p p' hs, se_ixZ s s' pr_ix⟩
end
end Dn
/-! Dn31: step by step: dicts, xs[::k], items of new things. -/
namespace Dn
open PySem PySem.Spec L2
section
variable (env e1 : Env) (f g h : Env → Out D) (fs : Env → Out (List D)) (i j : Nat) (k : Int) (d r : D) (ds es xs ys : List D) (n m : Int) (c : Bool) (y : Str) (ks : List Key) (q : Key)
@[simp] theorem z_keyx : keyD (.str y) = some (.inr y) := (Eq.refl _).trans (Eq.refl _)
@[simp] theorem z_keyi : keyD (.int n) = some (.inl n) := (Eq.refl _).trans (Eq.refl _)
def daO (o : Option (Option D)) : Option (List Key × List D) := match o with
  | some (some (.odic ks ds)) => some (ks, ds)
  | some (some (.dic ks ds)) => some (ks, ds)
  | _ => none
@[simp] theorem z_dicAt : dicAt env i = daO env[i]? := by unfold dicAt daO; rfl
@[simp] theorem z_da1 : daO (some (some (.odic ks ds))) = some (ks, ds) := (Eq.refl _).trans (Eq.refl _)
@[simp] theorem z_da2 : daO (some (some (.dic ks ds))) = some (ks, ds) := (Eq.refl _).trans (Eq.refl _)
def doO (o : Option (Option D)) : Option (List Key × List D) := match o with
  | some (some (.odic ks ds)) => some (ks, ds)
  | _ => none
@[simp] theorem z_odicAt : odicAt env i = doO env[i]? := by unfold odicAt doO; rfl
@[simp] theorem z_do1 : doO (some (some (.odic ks ds))) = some (ks, ds) := (Eq.refl _).trans (Eq.refl _)
def gtO3 (env1 : Env) (o : Option D) : Out D := match o with
  | some d => if plain d = true then .ok d env1 else .bad
  | none => .ok .non env1
def gtO2 (env1 : Env) (k : Option Key) (o : Option (List Key × List D)) : Out D := match k, o with
  | some k, some (ks, ds) => gtO3 env1 (lookK ks ds k)
  | _, _ => .bad
def gtO (i : Nat) (o : Out D) : Out D := o.bind fun kd env1 => gtO2 env1 (keyD kd) (dicAt env1 i)
@[simp] theorem z_get : dGet i f env = if (dicAt env i).isSome = true then gtO i (f env) else .bad := by
  unfold dGet gtO
  refine congrArg (fun z => ite _ z _) (congrArg _ (funext fun kd => funext fun env1 => ?_))
  cases keyD kd with
  | none => rfl
  | some k =>
    cases dicAt env1 i with
    | none => rfl
    | some p =>
      obtain ⟨a, b⟩ := p
      unfold gtO2 gtO3
      first
        | (simp only; done)
        | (simp only; cases lookK a b k <;> rfl)
@[simp] theorem z_gt : gtO i (.ok d e1) = gtO2 e1 (keyD d) (dicAt e1 i) := (Eq.refl _).trans (Eq.refl _)
@[simp] theorem z_gt2 : gtO2 e1 (some q) (some (ks, ds)) = gtO3 e1 (lookK ks ds q) := (Eq.refl _).trans (Eq.refl _)
@[simp] theorem z_gt3 : gtO3 e1 (some d) = if plain d = true then .ok d e1 else .bad := (Eq.refl _).trans (Eq.refl _)
@[simp] theorem z_gt4 : gtO3 e1 none = .ok .non e1 := (Eq.refl _).trans (Eq.refl _)
def kpO3 (i : Nat) (d' : D) (env3 : Env) (k : Option Key) (o : Option (List Key × List D)) : SOut := match k, o with
  | some k, some (ks, ds) => if plainL ds = true ∧ ks.length < sizeLine then .nx (env3.set i (some (.odic (putKs ks k) (putVs ks ds k d')))) else .bad
  | _, _ => .bad
def kpO2 (i : Nat) (d' : D) (o : Out D) : SOut := liftE o fun kd env3 => kpO3 i d' env3 (keyD kd) (odicAt env3 i)
def kpO1 (i : Nat) (g : Env → Out D) (o : Option (D × Env)) : SOut := match o with
  | some (d', env2) => if plain d' = true ∧ (odicAt env2 i).isSome = true then kpO2 i d' (g env2) else .bad
  | none => .bad
def kpO (i : Nat) (g : Env → Out D) (o : Out D) : SOut := liftE o fun d env1 => kpO1 i g (mv d env1)
@[simp] theorem z_putK : dPutK i f g env = kpO i g (f env) := by
  unfold dPutK kpO
  refine congrArg _ (funext fun d => funext fun env1 => ?_)
  unfold kpO1
  cases mv d env1 with
  | none => rfl
  | some p =>
    obtain ⟨d', env2⟩ := p
    simp only
    refine congrArg (fun z => ite _ z _) ?_
    unfold kpO2
    refine congrArg _ (funext fun kd => funext fun env3 => ?_)
    unfold kpO3
    cases keyD kd with
    | none => rfl
    | some k => cases odicAt env3 i <;> rfl
@[simp] theorem z_kp : kpO i g (.ok d e1) = kpO1 i g (mv d e1) := (Eq.refl _).trans (Eq.refl _)
@[simp] theorem z_kp1 : kpO1 i g (some (d, e1)) = if plain d = true ∧ (odicAt e1 i).isSome = true then kpO2 i d (g e1) else .bad := (Eq.refl _).trans (Eq.refl _)
@[simp] theorem z_kp2 : kpO2 i d (.ok r e1) = kpO3 i d e1 (keyD r) (odicAt e1 i) := (Eq.refl _).trans (Eq.refl _)
@[simp] theorem z_kp3 : kpO3 i d e1 (some q) (some (ks, ds)) = if plainL ds = true ∧ ks.length < sizeLine then .nx (e1.set i (some (.odic (putKs ks q) (putVs ks ds q d)))) else .bad := (Eq.refl _).trans (Eq.refl _)
def stO1 (k : Int) (env1 : Env) (o : Option (List D)) : Out D := match o with
  | some ds => if plainL ds = true then .ok (.own (stepL k ds)) env1 else .bad
  | none => .bad
def stO (k : Int) (o : Out D) : Out D := o.bind fun c env1 => stO1 k env1 (rdL env1 c)
@[simp] theorem z_step : dStep k f env = stO k (f env) := by
  unfold dStep stO
  refine congrArg _ (funext fun c => funext fun env1 => ?_)
  unfold stO1
  cases rdL env1 c <;> rfl
@[simp] theorem z_st : stO k (.ok d e1) = stO1 k e1 (rdL e1 d) := (Eq.refl _).trans (Eq.refl _)
@[simp] theorem z_st1 : stO1 k e1 (some ds) = if plainL ds = true then .ok (.own (stepL k ds)) e1 else .bad := (Eq.refl _).trans (Eq.refl _)
@[simp] theorem z_rdLb : rdL env (.bor i) = (rd env (.bor i)).bind seqL := (Eq.refl _).trans (Eq.refl _)
@[simp] theorem z_sLo : seqL (.own xs) = some xs := (Eq.refl _).trans (Eq.refl _)
@[simp] theorem z_sLl : seqL (.lst xs) = some xs := (Eq.refl _).trans (Eq.refl _)
@[simp] theorem z_sLs : seqL (.scr xs) = some xs := (Eq.refl _).trans (Eq.refl _)
def izO2 (env : Env) (o : Option D) : Out D := match o with
  | some d => .ok d env
  | none => .bad
def izO1 (ds : List D) (env : Env) (o : Option D) : Out D := match o with
  | some d => .ok d env
  | none => if noBorL ds = true then izO2 env (fIx env (frzL ds)) else .bad
def izO (o : Out (List D)) : Out D := o.bind fun ds env1 => izO1 ds env1 (fIx env1 ds)
@[simp] theorem z_ixZ : dIxZ f g env = izO (dCons f (dCons g dNil) env) := by
  unfold dIxZ izO
  refine congrArg _ (funext fun ds => funext fun env1 => ?_)
  unfold ixZ1 izO1
  cases fIx env1 ds with
  | some d => rfl
  | none =>
    simp only
    refine congrArg (fun z => ite _ z _) ?_
    unfold izO2
    cases fIx env1 (frzL ds) <;> rfl
@[simp] theorem z_iz : izO (.ok ds e1) = izO1 ds e1 (fIx e1 ds) := (Eq.refl _).trans (Eq.refl _)
@[simp] theorem z_iz1 : izO1 ds e1 (some d) = .ok d e1 := (Eq.refl _).trans (Eq.refl _)
@[simp] theorem z_iz1n : izO1 ds e1 none = if noBorL ds = true then izO2 e1 (fIx e1 (frzL ds)) else .bad := (Eq.refl _).trans (Eq.refl _)
@[simp] theorem z_iz2 : izO2 e1 (some d) = .ok d e1 := (Eq.refl _).trans (Eq.refl _)
@[simp] theorem z_ixod : ixD (.odic ks ds) d = (keyD d).bind fun k => plO (lookK ks ds k) := (Eq.refl _).trans (Eq.refl _)
@[simp] theorem z_ixd : ixD (.dic ks ds) d = (keyD d).bind fun k => plO (lookK ks ds k) := (Eq.refl _).trans (Eq.refl _)
@[simp] theorem z_rdod : rd env (.odic ks ds) = some (.odic ks ds) := (Eq.refl _).trans (Eq.refl _)
@[simp] theorem z_rdd : rd env (.dic ks ds) = some (.dic ks ds) := (Eq.refl _).trans (Eq.refl _)
end
/-! ### what is looked up behind a store -/
theorem look_cons {p : Key} {ks : List Key} {d : D} {ds : List D} {k : Key} : lookK (p :: ks) (d :: ds) k = if p = k then some d else lookK ks ds k := by
  unfold lookK
  rw [List.zip_cons_cons, List.find?_cons]
  by_cases e : p = k
  · simp [e]
  · simp [e]
theorem look_rep {k k' : Key} {d : D} : ∀ {ks : List Key} {ds : List D}, ks.length = ds.length → lookK ks (repK k d ks ds) k' = if k' = k then (if hasK ks k = true then some d else none) else lookK ks ds k'
  | [], [], _ => by simp [lookK, hasK, repK]
  | p :: ks, x :: ds, h => by
    rw [repK, look_cons, look_cons, look_rep (by simpa using h)]
    unfold hasK
    rw [List.any_cons]
    by_cases e : k' = k
    · subst e
      by_cases e2 : p = k'
      · simp [e2]
      · rw [decide_eq_false e2, Bool.false_or]; simp [e2]
    · by_cases e2 : p = k
      · subst e2
        simp [e, Ne.symm e]
      · simp [e, e2]
theorem look_has {k : Key} : ∀ {ks : List Key} {ds : List D}, hasK ks k = false → lookK ks ds k = none
  | [], _, _ => by simp [lookK]
  | _ :: _, [], _ => by simp [lookK]
  | p :: ks, x :: ds, h => by
    unfold hasK at h
    rw [List.any_cons, Bool.or_eq_false_iff] at h
    rw [look_cons, if_neg (of_decide_eq_false h.1)]
    exact look_has h.2
theorem look_snoc {p k : Key} {d : D} : ∀ {ks : List Key} {ds : List D}, ks.length = ds.length → lookK (ks ++ [p]) (ds ++ [d]) k = match lookK ks ds k with
    | some x => some x
    | none => if p = k then some d else none
  | [], [], _ => by
    rw [List.nil_append, List.nil_append, look_cons]
    rfl
  | q :: ks, x :: ds, h => by
    rw [List.cons_append, List.cons_append, look_cons, look_cons, look_snoc (by simpa using h)]
    by_cases e : q = k <;> simp [e]
theorem look_put {k k' : Key} {d : D} {ks : List Key} {ds : List D} (h : ks.length = ds.length) : lookK (putKs ks k) (putVs ks ds k d) k' = if k' = k then some d else lookK ks ds k' := by
  unfold putKs putVs
  by_cases e : hasK ks k = true
  · rw [if_pos e, if_pos e, look_rep h, if_pos e]
  · have e' : hasK ks k = false := by simpa using e
    rw [if_neg e, if_neg e, look_snoc h]
    by_cases e2 : k' = k
    · subst e2
      rw [look_has e']
    · rw [if_neg e2]
      cases lookK ks ds k' with
      | some x => rfl
      | none => simp [Ne.symm e2]
theorem put_len {k : Key} {d : D} {ks : List Key} {ds : List D} (h : ks.length = ds.length) : (putKs ks k).length = (putVs ks ds k d).length ∧ (putKs ks k).length ≤ ks.length + 1 := by
  unfold putKs putVs
  by_cases e : hasK ks k = true
  · rw [if_pos e, if_pos e, rep_len ks ds h]; exact ⟨h, by omega⟩
  · rw [if_neg e, if_neg e, List.length_append, List.length_append, h]; exact ⟨rfl, by rw [List.length_singleton]; exact Nat.le_refl _⟩
theorem plain_rep {k : Key} {d : D} (hd : plain d = true) : ∀ {ks : List Key} {ds : List D}, plainL ds = true → plainL (repK k d ks ds) = true
  | [], _, _ => rfl
  | q :: ks, [], _ => rfl
  | q :: ks, e :: ds, h => by
    simp only [plainL, Bool.and_eq_true] at h
    rw [repK, plainL, plain_rep hd h.2]
    by_cases z : q = k
    · simp [z, hd]
    · simp [z, h.1]
theorem plain_put {k : Key} {d : D} {ks : List Key} {ds : List D} (hd : plain d = true) (h : plainL ds = true) : plainL (putVs ks ds k d) = true := by
  unfold putVs
  split
  · exact plain_rep hd h
  · rw [plainL_append, h]; simp [hd]
/-! ### xs[::-1] -/
theorem step_rev {α : Type} (xs : List α) : stepL (-1) xs = xs.reverse := by
  unfold stepL stepIx
  rw [PySem.W.krv_bounds]
  show (sliceRange ((xs.length : Int) - 1) (-1) (-1)).filterMap (xs[·]?) = _
  rw [PySem.W.krv_sliceRange, PySem.W.krv_range, List.filterMap_reverse]
  have := PySem.W.krv_all xs.toArray
  rw [List.size_toArray] at this
  simp only [List.getElem?_toArray] at this
  rw [this]
theorem plain_step {k : Int} {xs : List D} (h : plainL xs = true) : plainL (stepL k xs) = true := by
  unfold stepL
  induction stepIx k xs.length with
  | nil => rfl
  | cons i l ih =>
    cases e : xs[i]? with
    | none => rw [List.filterMap_cons_none e]; exact ih
    | some d => rw [List.filterMap_cons_some e, plainL, ih, plainL_get h e]; rfl
/-! ### a def by what its body answers -/
theorem fnD_rt {m n : Nat} {fx : Nat → Bool} {g : Env → SOut} {ds : List D} {env0 : Env} {d : D} {env outs : Env} (h : g env0 = .rt d env) (e0 : ds.map some ++ List.replicate (m - n) none = env0) (ho : outsOf n fx env = outs) : fnD m n fx g ds = .ok d outs := by
  unfold fnD
  rw [e0, h]
  show Out.ok d (outsOf n fx env) = _
  rw [ho]
/-! ### loops -/
theorem forL_app {t : D → Env → Option Env} {b : Env → SOut} : ∀ {xs ys : List D} {env e : Env}, forL t b xs env = .nx e → (∀ env e', b env ≠ .bk e') → forL t b (xs ++ ys) env = forL t b ys e
  | [], ys, env, e, h, _ => by cases h; rfl
  | x :: xs, ys, env, e, h, nb => by
    rw [List.cons_append]
    unfold forL at h
    conv => lhs; unfold forL
    cases et : t x env with
    | none => rw [et] at h; cases h
    | some e1 =>
      rw [et] at h
      simp only at h ⊢
      cases eb : b e1 with
      | nx e2 => rw [eb] at h; exact forL_app h nb
      | ct e2 => rw [eb] at h; exact forL_app h nb
      | bk e2 => exact absurd eb (nb _ _)
      | rt d e2 => rw [eb] at h; cases h
      | err x e2 => rw [eb] at h; cases h
      | bad => rw [eb] at h; cases h
end Dn
/-! Dn32: x += y, xs[i] += y, of ints. -/
namespace Dn
open PySem PySem.Spec L2

def dAug (i : Nat) (G : Int → Int → Int) (f : Env → Out D) : Env → SOut := fun env => match env[i]? with
  | some (some (.int x)) => liftE (f env) fun d env1 => match d with
    | .int y => if i < env1.length then .nx (env1.set i (some (.int (G x y)))) else .bad
    | _ => .bad
  | _ => .bad
def augS2 (i : Nat) (G : Int → Int → Int) (k x : Int) (d : D) (env2 : Env) : SOut := match d, ownAt env2 i with
  | .int y, some ys => match ixN ys.length k with
    | some j => if noBorL (ys.set j (.int (G x y))) = true then .nx (env2.set i (some (.own (ys.set j (.int (G x y)))))) else .bad
    | none => .bad
  | _, _ => .bad
def augS1 (i : Nat) (G : Int → Int → Int) (fe : Env → Out D) (kd : D) (env1 : Env) : SOut := match kd, ownAt env1 i with
  | .int k, some xs => match atI xs k with
    | some (.int x) => liftE (fe env1) fun d env2 => augS2 i G k x d env2
    | _ => .bad
  | _, _ => .bad
/-- xs[k] op= e: xs in slot i -/
def dAugIx (i : Nat) (G : Int → Int → Int) (fk fe : Env → Out D) : Env → SOut := fun env => if (ownAt env i).isSome = true then liftE (fk env) fun kd env1 => augS1 i G fe kd env1 else .bad
section
variable {X : Cx} {W : WX} {fx : Nat → Bool}
theorem ss_aug {i : Nat} {te : TE} {f : Env → Out D} {G : Int → Int → Int} (hi : fx i = false) (hf : SE X W te f) : SS X W fx (tAug i te (ipI G)) (dAug i G f) := fun T env σ H A N I h => by
  unfold dAug at h
  split at h
  · rename_i x e
    obtain ⟨_, v0, s0, o0⟩ := I.slot i _ e
    have ev : v0 = .int x := o0.intv
    subst ev
    refine ⟨_, s0, hf T env σ H A _ I (h.lift fun d env1 e1 w v H1 A1 B1 m1 I1 o1 => ?_)⟩
    split at w
    · rename_i y
      split at w
      · rename_i hl
        have ev := o1.intv
        subst ev
        refine ⟨x, y, rfl, rfl, ?_⟩
        have I2 : EnvOk X.K X.mg (TB T []) env1 σ H1 A1 := I1.drop.weak tbn
        have m2 : Moved A A1 [] H H1 := m1.fewer fun p z => by cases z
        refine w (σ.set i (some (.int (G x y)))) H1 (setA A1 i []) ⟨m2.keep, fun p z => ?_⟩ (I2.set (.int _) rfl (by simp) hl) ⟨by rw [List.length_set], fun j hj => ?_⟩
        · rcases z with z | ⟨j, z⟩
          · cases z
          · by_cases hj : j = i
            · subst hj; rw [setA_same] at z; cases z
            · rw [setA_ne hj] at z; exact m2.new p (.inr ⟨j, z⟩)
        · have ji : j ≠ i := fun z => by
            subst z
            rw [hj] at hi
            cases hi
          rw [List.getElem?_set_ne (Ne.symm ji)]
      · exact w.elim
    · exact w.elim
  · exact h.elim
theorem get_list : PGet X (rIxL X.K) := by
  intro pins s σ H x y v u Q I rx ry h
  obtain ⟨p, xs, i, z, rfl, rfl, hq, he, q⟩ := h
  cases rx
  obtain ⟨t, rfl⟩ := ry
  obtain ⟨its, r, pl, hz⟩ := I.list hq
  obtain ⟨j, h1, h2, h3, h4, h5⟩ := atI_get he
  obtain ⟨w, ew, rw'⟩ := r.get h2
  have hl := r.length
  have hn := line63
  have fin : EP X pins σ Q w s := ⟨z, H, I, rw', q⟩
  by_cases h0 : 0 ≤ i
  · have hj : i.toNat = j := by
      rw [seqIndex_of h0 h5] at h1
      exact Option.some.inj h1
    exact wpAny_getItem_list pl.isList h0 (by omega) (by rw [hj]; simpa using ew) fin
  · have hj : (i + (its.toArray.size : Int)).toNat = j := by
      rw [seqIndex_neg (by omega) h4] at h1
      rw [List.size_toArray, ← hl]
      exact Option.some.inj h1
    exact wpAny_getItem_list_neg pl.isList (by omega) (by rw [List.size_toArray] <;> omega) (by omega) (by rw [hj]; simpa using ew) fin
theorem ss_augIx {i : Nat} {te tk : TE} {fe fk : Env → Out D} {G : Int → Int → Int} (hk : SE X W tk fk) (he : SE X W te fe) : SS X W fx (tAugS (tVar i) tk te (rIxL X.K) (ipI G) rSetL) (dAugIx i G fk fe) := fun T env σ H A N I h => by
  unfold dAugIx at h
  split at h
  · rename_i h0
    obtain ⟨xs0, h0⟩ := Option.isSome_iff_exists.mp h0
    obtain ⟨l, vs0, C0, s0, e0, _, _, _⟩ := I.ownAt h0
    refine ⟨_, s0, hk T env σ H A _ I (h.lift fun kd env1 e1 w kv H1 A1 B1 m1 I1 o1 => ?_)⟩
    unfold augS1 at w
    split at w
    · rename_i k xs ex
      have ev := o1.intv
      subst ev
      have I2 : EnvOk X.K X.mg T env1 σ H1 A1 := I1.drop
      have m2 : Moved A A1 [] H H1 := m1.fewer fun p z => by cases z
      obtain ⟨l1, us, C, s1, e1', hA, hl, ol⟩ := I2.ownAt ex
      rw [s0] at s1
      cases s1
      split at w
      · rename_i x ea
        obtain ⟨v, _, hv, ov, _⟩ := ol.atI ea
        have ev := ov.intv
        subst ev
        refine ⟨l, us, k, .int x, rfl, rfl, .inl (.inl e1'), hv, ?_⟩
        refine he T env1 σ H1 A1 _ I2 ((w.re m2 .refl).lift fun d env2 e2 w2 v H2 A2 B2 m3 I3 o2 => ?_)
        unfold augS2 at w2
        split at w2
        · rename_i y ys ey
          have ev := o2.intv
          subst ev
          refine ⟨x, y, rfl, rfl, ?_⟩
          split at w2
          · rename_i j ej
            split at w2
            · rename_i nb
              have I4 : EnvOk X.K X.mg (TB T []) env2 σ H2 A2 := I3.drop.weak tbn
              obtain ⟨l2, us2, C2, s2, e2', hA2, hl2, ol2⟩ := I4.ownAt ey
              rw [s0] at s2
              cases s2
              have le := ol2.length
              obtain ⟨C', oc, hc⟩ := ol2.set1 (B := []) (v := .int (G x y)) (d := .int (G x y)) (.int _) (by simp) (ixN_lt ej)
              obtain ⟨I5, _⟩ := change (rv := .non) (rd := .non) (B' := []) I4 (by simp) (ownAt_some ey) s0 hA2 hl2 oc .non (by simp) (fun p z => z.elim (hc p) fun z => by cases z) rfl nb
              have lA : l ∈ A2 i := by rw [hA2]; exact List.mem_cons_self
              have cA : ∀ p, p ∈ C2 → p ∈ A2 i := fun p z => by rw [hA2]; exact List.mem_cons_of_mem _ z
              have m4 : Moved A1 A2 [] H1 H2 := m3.fewer fun p z => by cases z
              refine ⟨l, us2, k, j, rfl, rfl, e2', by rw [le]; exact ej, w2 σ _ _ ⟨fun b u e1 nb1 => ?_, fun p z => ?_⟩ (I5.weak fun p z => .inl z) .refl⟩
              · have e2 := m4.keep b u e1 nb1
                have nl : b ≠ l := fun z => by
                  subst z
                  rcases m4.new b (.inr ⟨i, lA⟩) with ⟨j, q⟩ | q
                  · exact nb1 j q
                  · rw [e1] at q; cases q
                rw [upd_ne nl]
                exact e2
              · rcases z with z | ⟨j', z⟩
                · cases z
                · by_cases hj : j' = i
                  · subst hj
                    rw [setA_same] at z
                    rcases List.mem_cons.mp z with z | z
                    · subst z; exact m4.new p (.inr ⟨j', lA⟩)
                    · rcases hc p z with z | z
                      · exact m4.new p (.inr ⟨j', cA p z⟩)
                      · cases z
                  · rw [setA_ne hj] at z; exact m4.new p (.inr ⟨j', z⟩)
            · exact w2.elim
          · exact w2.elim
        · exact w2.elim
      · exact w.elim
    · exact w.elim
  · exact h.elim
theorem ds_augAdd (i : Nat) {x : Str} {e : Expr} {pos' pos : Pos} {f : Env → Out D} {k : Nat} (Z : Sit X W k) (he : DE X W e f) (hi : X.N[i]? = some x := by rfl) (hx : Loc X.env.scope x := by first | exact Or.inl rfl | exact Or.inr rfl) (hfx : fx i = false := by rfl)
    (hf : X.fn x = true ∨ X.env.scope.names.lookup x = some .local := by first | exact .inl rfl | exact .inr rfl) : DS X W fx (.AugAssign (.Name x pos') .Add e pos) (dAug i (fun a b => a + b) f) := let ⟨_, a, b⟩ := he; ⟨_, ps_aug Z.nd hi hx a ip_add hf, ss_aug hfx b⟩
theorem ds_augSub (i : Nat) {x : Str} {e : Expr} {pos' pos : Pos} {f : Env → Out D} {k : Nat} (Z : Sit X W k) (he : DE X W e f) (hi : X.N[i]? = some x := by rfl) (hx : Loc X.env.scope x := by first | exact Or.inl rfl | exact Or.inr rfl) (hfx : fx i = false := by rfl)
    (hf : X.fn x = true ∨ X.env.scope.names.lookup x = some .local := by first | exact .inl rfl | exact .inr rfl) : DS X W fx (.AugAssign (.Name x pos') .Sub e pos) (dAug i (fun a b => a - b) f) := let ⟨_, a, b⟩ := he; ⟨_, ps_aug Z.nd hi hx a ip_sub hf, ss_aug hfx b⟩
theorem ds_augIxAdd (i : Nat) {x : Str} {ek e : Expr} {px tpos pos : Pos} {fk fe : Env → Out D} (hk : DE X W ek fk) (he : DE X W e fe) (hN : X.N[i]? = some x := by rfl) (hv : Vis X.env.scope x := by first | exact Or.inl rfl | exact Or.inr (Or.inl rfl) | exact Or.inr (Or.inr rfl))
    (ha : ∀ ov iv new, augStore ek ov iv new = (do holding [new, ov, iv] (setItem ov iv new); release [new, ov, iv] []; pure .next) := by intros; rfl) (hd : (x == ("__debug__" : Str)) = false := by decide) (hcd : (x == ("__classdict__" : Str)) = false := by decide) :
    DS X W fx (.AugAssign (.Subscript (.Name x px) ek tpos) .Add e pos) (dAugIx i (fun a b => a + b) fk fe) := let ⟨_, a, b⟩ := hk; let ⟨_, c, d⟩ := he; ⟨_, ps_augS (pe_var hN hv hd hcd) a get_list c ip_add set_list ha, ss_augIx b d⟩
theorem ds_augIxSub (i : Nat) {x : Str} {ek e : Expr} {px tpos pos : Pos} {fk fe : Env → Out D} (hk : DE X W ek fk) (he : DE X W e fe) (hN : X.N[i]? = some x := by rfl) (hv : Vis X.env.scope x := by first | exact Or.inl rfl | exact Or.inr (Or.inl rfl) | exact Or.inr (Or.inr rfl))
    (ha : ∀ ov iv new, augStore ek ov iv new = (do holding [new, ov, iv] (setItem ov iv new); release [new, ov, iv] []; pure .next) := by intros; rfl) (hd : (x == ("__debug__" : Str)) = false := by decide) (hcd : (x == ("__classdict__" : Str)) = false := by decide) :
    DS X W fx (.AugAssign (.Subscript (.Name x px) ek tpos) .Sub e pos) (dAugIx i (fun a b => a - b) fk fe) := let ⟨_, a, b⟩ := hk; let ⟨_, c, d⟩ := he; ⟨_, ps_augS (pe_var hN hv hd hcd) a get_list c ip_sub set_list ha, ss_augIx b d⟩
end

/-! step by step -/
section
variable (env e1 : Env) (f g : Env → Out D) (i : Nat) (d : D) (G : Int → Int → Int) (n m k x : Int) (ys : List D)
def auO2 (i : Nat) (G : Int → Int → Int) (x : Int) (o : Out D) : SOut := liftE o fun d env1 => match d with
  | .int y => if i < env1.length then .nx (env1.set i (some (.int (G x y)))) else .bad
  | _ => .bad
def auO (i : Nat) (G : Int → Int → Int) (o : Out D) (v : Option (Option D)) : SOut := match v with
  | some (some (.int x)) => auO2 i G x o
  | _ => .bad
@[simp] theorem z_aug : dAug i G f env = auO i G (f env) env[i]? := by unfold dAug auO auO2; rfl
@[simp] theorem z_au : auO i G o (some (some (.int x))) = auO2 i G x o := (Eq.refl _).trans (Eq.refl _)
@[simp] theorem z_au2 : auO2 i G x (.ok (.int n) e1) = if i < e1.length then .nx (e1.set i (some (.int (G x n)))) else .bad := (Eq.refl _).trans (Eq.refl _)
def axO3 (i : Nat) (G : Int → Int → Int) (k x : Int) (o : Out D) : SOut := liftE o fun d env2 => augS2 i G k x d env2
def axO2 (i : Nat) (G : Int → Int → Int) (k : Int) (o : Out D) (v : Option D) : SOut := match v with
  | some (.int x) => axO3 i G k x o
  | _ => .bad
def axO1 (i : Nat) (G : Int → Int → Int) (kd : D) (o : Out D) (v : Option (List D)) : SOut := match kd, v with
  | .int k, some xs => axO2 i G k o (atI xs k)
  | _, _ => .bad
def axO (i : Nat) (G : Int → Int → Int) (g : Env → Out D) (o : Out D) : SOut := liftE o fun kd env1 => axO1 i G kd (g env1) (ownAt env1 i)
@[simp] theorem z_augIx : dAugIx i G f g env = if (ownAt env i).isSome = true then axO i G g (f env) else .bad := by
  unfold dAugIx axO augS1 axO1 axO2 axO3; rfl
@[simp] theorem z_ax : axO i G g (.ok d e1) = axO1 i G d (g e1) (ownAt e1 i) := (Eq.refl _).trans (Eq.refl _)
@[simp] theorem z_ax1 (xs : List D) : axO1 i G (.int k) o (some xs) = axO2 i G k o (atI xs k) := (Eq.refl _).trans (Eq.refl _)
@[simp] theorem z_ax2 : axO2 i G k o (some (.int x)) = axO3 i G k x o := (Eq.refl _).trans (Eq.refl _)
def axO5 (i : Nat) (G : Int → Int → Int) (x y : Int) (ys : List D) (env2 : Env) (o : Option Nat) : SOut := match o with
  | some j => if noBorL (ys.set j (.int (G x y))) = true then .nx (env2.set i (some (.own (ys.set j (.int (G x y)))))) else .bad
  | none => .bad
def axO4 (i : Nat) (G : Int → Int → Int) (k x y : Int) (env2 : Env) (o : Option (List D)) : SOut := match o with
  | some ys => axO5 i G x y ys env2 (ixN ys.length k)
  | none => .bad
@[simp] theorem z_ax3 : axO3 i G k x (.ok (.int n) e1) = axO4 i G k x n e1 (ownAt e1 i) := by
  unfold axO3 axO4 axO5
  show augS2 i G k x (.int n) e1 = _
  unfold augS2
  cases ownAt e1 i with
  | none => rfl
  | some ys =>
    simp only
    try cases ixN ys.length k <;> rfl
@[simp] theorem z_ax4 : axO4 i G k x n e1 (some ys) = axO5 i G x n ys e1 (ixN ys.length k) := (Eq.refl _).trans (Eq.refl _)
@[simp] theorem z_ax5 (j : Nat) : axO5 i G x n ys e1 (some j) = if noBorL (ys.set j (.int (G x n))) = true then .nx (e1.set i (some (.own (ys.set j (.int (G x n)))))) else .bad := (Eq.refl _).trans (Eq.refl _)
end
end Dn
/-! Dn33: xs.pop(). -/
namespace Dn
open PySem PySem.Spec L2
section
variable {X : Cx} {W : WX}
theorem de_pop (i : Nat) {x : Str} {p apos cpos : Pos} (hN : X.N[i]? = some x := by rfl) (hv : Vis X.env.scope x := by first | exact Or.inl rfl | exact Or.inr (Or.inl rfl) | exact Or.inr (Or.inr rfl))
    (hb : attributeBase (.Name x p) "pop" X.env (eval (.Name x p) X.env) = eval (.Name x p) X.env := by rfl)
    (hl : (apos.endLine == cpos.line) = true := by rfl) (hd : (x == ("__debug__" : Str)) = false := by decide) (hcd : (x == ("__classdict__" : Str)) = false := by decide) :
    DE X W (.Call (.Attribute (.Name x p) "pop" apos) [] [] cpos) (dMut i mPop dNil) := ⟨_, pe_bm0 PySem.F.plainAttrs_list PySem.F.slot_list_pop PySem.F.type_list_pop mt_pop (pe_var hN hv hd hcd) hb hl, fun T env σ H A Q I h => se_mut sl_nil m_pop T env σ H A Q I h⟩
end
theorem forL_step {t : D → Env → Option Env} {b : Env → SOut} {d : D} {ds : List D} {env e1 e2 : Env} {r : SOut} (h1 : t d env = some e1) (h2 : b e1 = .nx e2) (h3 : forL t b ds e2 = r) : forL t b (d :: ds) env = r := by
  conv => lhs; unfold forL
  rw [h1]
  simp only [h2]
  exact h3
@[simp] theorem z_pop (xs : List D) : mPop xs [] = (xs[xs.length - 1]?).map fun y => (y, xs.dropLast) := (Eq.refl _).trans (Eq.refl _)
end Dn
/-! Dn34: repr of any data. -/
namespace Dn
open PySem PySem.Spec L2
mutual
/-- nothing borrowed, no script, no exception -/
def okR : D → Bool
  | .tup xs => okRL xs
  | .lst xs => okRL xs
  | .dic _ vs => okRL vs
  | .own xs => okRL xs
  | .odic _ vs => okRL vs
  | .scr _ => false
  | .bor _ => false
  | .exc _ _ _ => false
  | .non => true
  | .bl _ => true
  | .int _ => true
  | .str _ => true
def okRL : List D → Bool
  | [] => true
  | d :: ds => okR d && okRL ds
end
/-! what a list, a tuple, a dict shows, if its parts show theirs -/
section
variable {P : Program} {w : World} {hp : Heap}
theorem shows_list {a : Addr} {ob : Obj} {vs : Array Value} {n : Nat} {zs : List PyData} {as bs : List Addr} (g : hp.get? a = some ob) (gc : ob.cls = .type "list") (gd : ob.data = .seq vs n) (rd : ReadsAll hp vs.toList zs as) (am : ReadAtMost hp (PyData.depthAll zs) bs)
    (all : ReprAllK P w bs hp (PyData.depthAll zs) vs.toList (PyData.shownAll zs)) : ∃ cs, ReadAtMost hp (PyData.list zs).depth cs ∧ ReprK P w cs hp (PyData.list zs).depth (.ref a) (PyData.list zs).shown := by
  have here := Reads.list g gc gd rd
  have away : a ∉ bs := not_mem_of_deeper here (by simp only [PyData.depth]; omega) am
  refine ⟨_, ReadAtMost.cons here (by simp only [PyData.depth]; omega) am, ?_⟩
  simp only [PyData.depth, PyData.shown]
  cases vs with
  | mk l =>
    cases l with
    | nil =>
      have rd0 : ReadsAll hp [] zs as := rd
      cases rd0
      simp only [PyData.shownAll, listText_nil]
      exact ReprK.listEmpty g gc gd
    | cons y l => exact ReprK.list g gc gd away (by simpa using all.length_eq) fun i z e => all.item i z (by simpa using e)
theorem shows_tuple {a : Addr} {ob : Obj} {vs : Array Value} {n : Nat} {zs : List PyData} {as bs : List Addr} (g : hp.get? a = some ob) (gc : ob.cls = .type "tuple") (gd : ob.data = .seq vs n) (rd : ReadsAll hp vs.toList zs as) (am : ReadAtMost hp (PyData.depthAll zs) bs)
    (all : ReprAllK P w bs hp (PyData.depthAll zs) vs.toList (PyData.shownAll zs)) : ∃ cs, ReadAtMost hp (PyData.tuple zs).depth cs ∧ ReprK P w cs hp (PyData.tuple zs).depth (.ref a) (PyData.tuple zs).shown := by
  have here := Reads.tuple g gc gd rd
  have away : a ∉ bs := not_mem_of_deeper here (by simp only [PyData.depth]; omega) am
  refine ⟨_, ReadAtMost.cons here (by simp only [PyData.depth]; omega) am, ?_⟩
  simp only [PyData.depth, PyData.shown]
  exact ReprK.tuple g gc gd away all
theorem shows_dict {a : Addr} {ob : Obj} {es : Array DictEntry} {n : Nat} {kvs : List (PyData × PyData)} {as bs ks vs : List Addr} (g : hp.get? a = some ob) (gc : ob.cls = .type "dict") (gd : ob.data = .dict es n) (ns : (a == sysModules) = false)
    (rk : ReadsAll hp (es.toList.map (·.key)) (kvs.map (·.1)) as) (rv : ReadsAll hp (es.toList.map (·.val)) (kvs.map (·.2)) bs) (ak : ReadAtMost hp (PyData.depthAll (kvs.map (·.1))) ks) (av : ReadAtMost hp (PyData.depthAll (kvs.map (·.2))) vs)
    (k1 : ReprAllK P w ks hp (PyData.depthAll (kvs.map (·.1))) (es.toList.map (·.key)) (PyData.shownAll (kvs.map (·.1)))) (k2 : ReprAllK P w vs hp (PyData.depthAll (kvs.map (·.2))) (es.toList.map (·.val)) (PyData.shownAll (kvs.map (·.2)))) :
    ∃ cs, ReadAtMost hp (PyData.dict kvs).depth cs ∧ ReprK P w cs hp (PyData.dict kvs).depth (.ref a) (PyData.dict kvs).shown := by
  have here := Reads.dict g gc gd rk rv
  have d1 := PyData.depthAll_keys_le kvs
  have d2 := PyData.depthAll_vals_le kvs
  have both := (ak.mono d1).append (av.mono d2)
  have away : a ∉ ks ++ vs := not_mem_of_deeper here (by simp only [PyData.depth]; omega) both
  refine ⟨_, ReadAtMost.cons here (by simp only [PyData.depth]; omega) both, ?_⟩
  simp only [PyData.depth, PyData.shown, PyData.shownKv_eq]
  refine ReprK.dict g gc gd ns away (ReprEntriesK.of_two es.toList _ _ (k1.more_le ?_ d1) (k2.more_le ?_ d2))
  · exact fun b hb => List.mem_append_left _ hb
  · exact fun b hb => List.mem_append_right _ hb
theorem shows_nil : ReprAllK P w [] hp (PyData.depthAll []) [] (PyData.shownAll []) := .nil
theorem shows_cons {v : Value} {z : PyData} {vs : List Value} {zs : List PyData} {bs cs : List Addr} (a1 : ReadAtMost hp z.depth bs) (k1 : ReprK P w bs hp z.depth v z.shown) (a2 : ReadAtMost hp (PyData.depthAll zs) cs) (k2 : ReprAllK P w cs hp (PyData.depthAll zs) vs (PyData.shownAll zs)) :
    ReadAtMost hp (PyData.depthAll (z :: zs)) (bs ++ cs) ∧ ReprAllK P w (bs ++ cs) hp (PyData.depthAll (z :: zs)) (v :: vs) (PyData.shownAll (z :: zs)) := by
  have d1 : z.depth ≤ PyData.depthAll (z :: zs) := by simp only [PyData.depthAll]; exact Nat.le_max_left _ _
  have d2 : PyData.depthAll zs ≤ PyData.depthAll (z :: zs) := by simp only [PyData.depthAll]; exact Nat.le_max_right _ _
  refine ⟨(a1.mono d1).append (a2.mono d2), ?_⟩
  rw [PyData.shownAll]
  refine .cons ((k1.more ?_).level_le d1) (k2.more_le ?_ d2)
  · exact fun b hb => List.mem_append_left _ hb
  · exact fun b hb => List.mem_append_right _ hb
end
/-- a list of data that may be shown -/
def okSh (zs : List PyData) : Prop := PyData.showableAll zs = true ∧ ∀ t ∈ PyData.shownAll zs, t.length ≤ sizeLine
theorem okSh.cons {z : PyData} {zs : List PyData} (h : okSh (z :: zs)) : (z.showable = true ∧ z.shown.length ≤ sizeLine) ∧ okSh zs := by
  obtain ⟨h1, h2⟩ := h
  rw [PyData.showableAll, Bool.and_eq_true] at h1
  rw [PyData.shownAll] at h2
  exact ⟨⟨h1.1, h2 _ List.mem_cons_self⟩, h1.2, fun t ht => h2 t (List.mem_cons_of_mem _ ht)⟩
section
variable {X : Cx} {mg : Str → Option Value} {S : Addr → Prop} {σ σ' : St} {H : Hp} {pins : List (Addr × Obj)} {s : Shared}
def Sh (X : Cx) (s : Shared) (u : Value) (z : PyData) : Prop := (∃ as, Reads s.heap u z as) ∧ ∃ bs, ReadAtMost s.heap z.depth bs ∧ ReprK X.prog X.w bs s.heap z.depth u z.shown
def ShL (X : Cx) (s : Shared) (us : List Value) (zs : List PyData) : Prop := (∃ as, ReadsAll s.heap us zs as) ∧ ∃ bs, ReadAtMost s.heap (PyData.depthAll zs) bs ∧ ReprAllK X.prog X.w bs s.heap (PyData.depthAll zs) us (PyData.shownAll zs)
theorem Sh.flat {u : Value} {z : PyData} (r : Reads s.heap u z []) (hd : z.hasDict = false) (h : z.showable = true ∧ z.shown.length ≤ sizeLine) : Sh X s u z := ⟨⟨_, r⟩, ReprK.of_reads r h.1 (fun e => by rw [hd] at e; cases e) h.2⟩
theorem ShL.nil : ShL X s [] [] := ⟨⟨_, .nil⟩, [], (fun _ h => nomatch h), shows_nil⟩
theorem ShL.cons {u : Value} {us : List Value} {z : PyData} {zs : List PyData} (a : Sh X s u z) (b : ShL X s us zs) : ShL X s (u :: us) (z :: zs) := by
  obtain ⟨⟨as, r1⟩, bs, a1, k1⟩ := a
  obtain ⟨⟨cs, r2⟩, ds, a2, k2⟩ := b
  obtain ⟨h1, h2⟩ := shows_cons a1 k1 a2 k2
  exact ⟨⟨_, .cons r1 r2⟩, _, h1, h2⟩
theorem sh_list {zs : List PyData} (h : (PyData.list zs).showable = true ∧ (PyData.list zs).shown.length ≤ sizeLine) : okSh zs :=
  ⟨by simpa [PyData.showable] using h.1, fun t ht => Nat.le_trans (listText_mem_le ht) (by simpa only [PyData.shown] using h.2)⟩
theorem sh_tuple {zs : List PyData} (h : (PyData.tuple zs).showable = true ∧ (PyData.tuple zs).shown.length ≤ sizeLine) : okSh zs :=
  ⟨by simpa [PyData.showable] using h.1, fun t ht => Nat.le_trans (tupleText_mem_le ht) (by simpa only [PyData.shown] using h.2)⟩
theorem sh_dict {kvs : List (PyData × PyData)} (h : (PyData.dict kvs).showable = true ∧ (PyData.dict kvs).shown.length ≤ sizeLine) : okSh (kvs.map (·.1)) ∧ okSh (kvs.map (·.2)) := by
  obtain ⟨s1, s2⟩ := PyData.showableKv_split kvs (by simpa [PyData.showable] using h.1)
  have hz : (dictText (PyData.shownKv kvs)).length ≤ sizeLine := by simpa only [PyData.shown] using h.2
  refine ⟨⟨s1, fun t ht => ?_⟩, s2, fun t ht => ?_⟩
  · obtain ⟨p, hp, hl⟩ := PyData.shownKv_key_le kvs t ht
    exact Nat.le_trans hl (Nat.le_trans (dictText_mem_le hp) hz)
  · obtain ⟨p, hp, hl⟩ := PyData.shownKv_val_le kvs t ht
    exact Nat.le_trans hl (Nat.le_trans (dictText_mem_le hp) hz)
mutual
theorem Ow.shows (I : Inv X pins σ' H s) : ∀ {B : List Addr} {v : V} {d : D}, Ow X.K mg S σ H B v d → okR d = true → ∀ u, RelV v u → (py d).showable = true ∧ (py d).shown.length ≤ sizeLine → Sh X s u (py d)
  | _, _, _, .non, _, u, r, h => by cases r; exact Sh.flat Reads.none rfl h
  | _, _, _, .bl b, _, u, r, h => by cases r; exact Sh.flat (Reads.bool b) rfl h
  | _, _, _, .int b, _, u, r, h => by obtain ⟨t, rfl⟩ := r; exact Sh.flat (Reads.int b t) rfl h
  | _, _, _, .str b, _, u, r, h => by obtain ⟨t, rfl⟩ := r; exact Sh.flat (Reads.str b t) rfl h
  | _, _, _, .tup i l, k, u, r, h => by
    cases r
    obtain ⟨its, rv, ⟨o, ho, hc, n, hd⟩, _⟩ := I.tuple i.sq
    obtain ⟨⟨as, hr⟩, bs, a1, k1⟩ := OwL.shows I l (by simpa [okR] using k) its rv (sh_tuple h)
    exact ⟨⟨_, Reads.tuple ho hc hd hr⟩, shows_tuple ho hc hd hr a1 k1⟩
  | _, _, _, .lst i l, k, u, r, h => by
    cases r
    obtain ⟨its, rv, ⟨o, n, ho, hc, _, hd⟩, _⟩ := I.list i.sq
    obtain ⟨⟨as, hr⟩, bs, a1, k1⟩ := OwL.shows I l (by simpa [okR] using k) its rv (sh_list h)
    exact ⟨⟨_, Reads.list ho hc hd hr⟩, shows_list ho hc hd hr a1 k1⟩
  | _, _, _, .scr i l, k, u, r, h => by simp [okR] at k
  | _, _, _, .own i _ l, k, u, r, h => by
    cases r
    obtain ⟨its, rv, ⟨o, n, ho, hc, _, hd⟩, _⟩ := I.list (.inl (.inl i))
    obtain ⟨⟨as, hr⟩, bs, a1, k1⟩ := OwL.shows I l (by simpa [okR] using k) its rv (sh_list h)
    exact ⟨⟨_, Reads.list ho hc hd hr⟩, shows_list ho hc hd hr a1 k1⟩
  | _, _, _, .dic i l, k, u, r, h => by
    cases r
    obtain ⟨z, hs, vs, rel, o, es, ep, h1, h2, h3, h4, h5, h6⟩ := dk_of I.hok i.2.1
    obtain ⟨s1, s2⟩ := sh_dict h
    obtain ⟨⟨⟨as, r1⟩, _, a1, k1⟩, ⟨bs, r2⟩, _, a2, k2⟩ := OwL.showsK I l (by simpa [okR] using k) _ i.2.2 _ _ rel h5 s1 s2
    exact ⟨⟨_, Reads.dict h1 h2.1 h3 r1 r2⟩, shows_dict h1 h2.1 h3 hs r1 r2 a1 a2 k1 k2⟩
  | _, _, _, .odic i g _ l, k, u, r, h => by
    cases r
    obtain ⟨z, hs, vs, rel, o, es, ep, h1, h2, h3, h4, h5, h6⟩ := dk_of I.hok i
    obtain ⟨s1, s2⟩ := sh_dict h
    obtain ⟨⟨⟨as, r1⟩, _, a1, k1⟩, ⟨bs, r2⟩, _, a2, k2⟩ := OwL.showsK I l (by simpa [okR] using k) _ g _ _ rel h5 s1 s2
    exact ⟨⟨_, Reads.dict h1 h2.1 h3 r1 r2⟩, shows_dict h1 h2.1 h3 hs r1 r2 a1 a2 k1 k2⟩
  | _, _, _, .bor _, k, u, r, h => by simp [okR] at k
theorem OwL.shows (I : Inv X pins σ' H s) : ∀ {B : List Addr} {vs : List V} {ds : List D}, OwL X.K mg S σ H B vs ds → okRL ds = true → ∀ us, Vals vs us → okSh (pyL ds) → ShL X s us (pyL ds)
  | _, _, _, .nil, _, us, r, _ => by cases r; exact ShL.nil
  | _, _, _, .cons a b _, k, us, r, h => by
    cases r with
    | cons r1 r2 =>
      simp only [okRL, Bool.and_eq_true] at k
      rw [pyL] at h ⊢
      obtain ⟨h1, h2⟩ := h.cons
      exact ShL.cons (Ow.shows I a k.1 _ r1 h1) (OwL.shows I b k.2 _ r2 h2)
theorem OwL.showsK (I : Inv X pins σ' H s) : ∀ {B : List Addr} {vs : List V} {ds : List D}, OwL X.K mg S σ H B vs ds → okRL ds = true → ∀ (ks : List Key), ks.length = vs.length → ∀ (qs : List (Key × Value)) (es : List DictEntry), KV (ks.zip vs) qs → Pairs (mixKind X.prog X.w) es qs →
    okSh ((pyK ks ds).map (·.1)) → okSh ((pyK ks ds).map (·.2)) → ShL X s (es.map (·.key)) ((pyK ks ds).map (·.1)) ∧ ShL X s (es.map (·.val)) ((pyK ks ds).map (·.2))
  | _, _, _, .nil, _, ks, hl, qs, es, r, p, _, _ => by
    have : ks = [] := List.eq_nil_of_length_eq_zero hl
    subst this
    cases r
    cases p
    exact ⟨ShL.nil, ShL.nil⟩
  | _, _, _, .cons a b _, k, ks, hl, qs, es, r, p, s1, s2 => by
    cases ks with
    | nil => simp at hl
    | cons q ks =>
      rw [List.zip_cons_cons] at r
      cases r with
      | cons r1 r2 =>
        cases p with
        | cons p1 p2 p3 =>
          simp only [okRL, Bool.and_eq_true] at k
          have e1 := r1.1
          simp only at e1
          rw [← e1] at p1
          rcases keyIs_shape p1 with ⟨i, t, e2, e3⟩ | ⟨x, t, e2, e3⟩
          · subst e2
            rw [pyK, List.map_cons] at s1 s2 ⊢
            obtain ⟨g1, g2⟩ := s1.cons
            obtain ⟨g3, g4⟩ := s2.cons
            obtain ⟨c1, c2⟩ := OwL.showsK I b k.2 ks (by simpa using hl) _ _ r2 p3 g2 g4
            rw [List.map_cons, List.map_cons, e3, p2]
            exact ⟨ShL.cons (Sh.flat (Reads.int i t) rfl g1) c1, ShL.cons (Ow.shows I a k.1 _ r1.2 g3) c2⟩
          · subst e2
            rw [pyK, List.map_cons] at s1 s2 ⊢
            obtain ⟨g1, g2⟩ := s1.cons
            obtain ⟨g3, g4⟩ := s2.cons
            obtain ⟨c1, c2⟩ := OwL.showsK I b k.2 ks (by simpa using hl) _ _ r2 p3 g2 g4
            rw [List.map_cons, List.map_cons, e3, p2]
            exact ⟨ShL.cons (Sh.flat (Reads.str x t) rfl g1) c1, ShL.cons (Ow.shows I a k.1 _ r1.2 g3) c2⟩
end
end
end Dn
/-! Dn35: an operation on things that are frozen first, where they have to be. -/
namespace Dn
open PySem PySem.Spec L2
def opF2 (o : Option D) (env : Env) : Out D := match o with
  | some d => .ok d env
  | none => .bad
def opF1 (F : Env → List D → Option D) (ds : List D) (env : Env) (o : Option D) : Out D := match o with
  | some d => .ok d env
  | none => opF2 (F ((borsL ds).foldl frzAt env) (frzL ds)) ((borsL ds).foldl frzAt env)
def dOpF (F : Env → List D → Option D) (fs : Env → Out (List D)) : Env → Out D := fun env => (fs env).bind fun ds env1 => opF1 F ds env1 (F env1 ds)
section
variable {X : Cx} {W : WX}
theorem se_appF {ta : TA} {r : List V → Hp → VK → Prop} {F : Env → List D → Option D} {fs : Env → Out (List D)} (hs : SL X W ta fs) (hr : PureR X r F) : SE X W (tCB r ta) (dOpF F fs) := fun T env σ H A Q I h => by
  refine hs T env σ H A _ I ?_
  unfold dOpF at h
  cases e : fs env with
  | bad => rw [e] at h; exact h
  | err x env' => rw [e] at h; exact h
  | ok ds env1 =>
    rw [e, Out.bind_ok] at h
    intro vs H1 A1 B1 m1 I1 o1
    cases ef : F env1 ds with
    | some d =>
      rw [ef] at h
      refine hr T env1 σ H1 A1 B1 vs ds d Q I1 o1 ef fun v H' B' k nb o => ?_
      exact h v H' A1 B' (m1.trans (Moved.grown (A := A1) k nb) fun p z => .inr (.inl z)) (I1.drop.grow k nb fun p z => o.there p z) o
    | none =>
      rw [ef] at h
      unfold opF1 opF2 at h
      simp only at h
      cases e2 : F ((borsL ds).foldl frzAt env1) (frzL ds) with
      | none => rw [e2] at h; exact h.elim
      | some d =>
        rw [e2] at h
        obtain ⟨A2, I2, s2, _, _⟩ := I1.frzAll (borsL ds)
        have I3 : EnvOk X.K X.mg (TB T []) ((borsL ds).foldl frzAt env1) σ H1 A2 := I2.drop.weak tbn
        have o2 : OwL X.K X.mg (SA A2 (TB T [])) σ H1 [] vs (frzL ds) := o1.frz (fun p z => by
          rcases z with z | ⟨i, z⟩
          · exact .inl (.inl (tbn _ z))
          · exact .inr ⟨i, s2 i p z⟩) fun p hp z => by
          rcases z with z | ⟨i, z⟩
          · exact Moved.sepB I m1 p hp (tbn _ z)
          · exact I2.sep i p z (.inr hp)
        have m2 : Moved A A2 [] H H1 := ⟨m1.keep, fun p z => m1.new p (by
          rcases z with z | ⟨i, z⟩
          · cases z
          · exact .inr ⟨i, s2 i p z⟩)⟩
        refine hr T _ σ H1 A2 [] vs _ d Q I3 o2 e2 fun v H' B' k nb o => ?_
        exact h v H' A2 B' (m2.trans (Moved.grown (A := A2) k nb) fun p z => .inr (.inl z)) (I2.drop.grow k nb fun p z => o.there p z) o
theorem se_opF {ta tb : TE} {r : R2} {F : Env → List D → Option D} {f g : Env → Out D} (ha : SE X W ta f) (hb : SE X W tb g) (hr : PureR X (r2 r) F) : SE X W (tOp r ta tb) (dOpF F (dCons f (dCons g dNil))) := fun T env σ H A Q I h =>
  se_appF (sl_cons ha (sl_cons hb sl_nil)) hr T env σ H A Q I h
theorem de_addF {a b : Expr} {pos : Pos} {f g : Env → Out D} (ha : DE X W a f) (hb : DE X W b g) : DE X W (.BinOp a .Add b pos) (dOpF fAdd (dCons f (dCons g dNil))) := by
  obtain ⟨t, p, s⟩ := ha
  obtain ⟨u, p', s'⟩ := hb
  exact ⟨_, pe_op (op_add.or (op_add_ib.or (op_add_str.or (op_cat.or op_catA)))) p p', se_opF s s' pr_add⟩
theorem de_ixFF {k : Nat} {a b : Expr} {pos : Pos} {f g : Env → Out D} (Z : Sit X W k) (ha : DE X W a f) (hb : DE X W b g) (hs : PlainIx b) : DE X W (.Subscript a b pos) (dOpF fIx (dCons f (dCons g dNil))) := by
  obtain ⟨t, p, s⟩ := ha
  obtain ⟨u, p', s'⟩ := hb
  exact ⟨_, pe_ix (ix_str.or ((ix_dict (Nat.lt_of_le_of_lt (Nat.add_le_add_left (by decide : 1 ≤ 64) _) Z.room.units)).or (ix_list.or ix_tup))) p p' hs, se_opF s s' pr_ix⟩
end

/-! ### repr of any data -/
section
variable {P : Program} {w : World} {hp : Heap}
theorem top_list {a : Addr} {ob : Obj} {vs : Array Value} {n : Nat} {zs : List PyData} {as bs : List Addr} (g : hp.get? a = some ob) (gc : ob.cls = .type "list") (gd : ob.data = .seq vs n) (rd : ReadsAll hp vs.toList zs as) (am : ReadAtMost hp (PyData.depthAll zs) bs)
    (all : ReprAllK P w bs hp (PyData.depthAll zs) vs.toList (PyData.shownAll zs)) (hz : (PyData.list zs).shown.length ≤ sizeLine) : ∃ T idr, ShowsBy P w hp a (.list zs) T idr := by
  have away : a ∉ bs := not_mem_of_deeper (Reads.list g gc gd rd) (by simp only [PyData.depth]; omega) am
  refine ⟨"list", "list.__repr__", PySem.F.slot_list_repr.toG, PySem.F.slot_list_str, PySem.F.slot_list_format, fun s kp => ⟨ob, kp _ _ g, gc⟩, fun A E s Q gu un kp q => ?_⟩
  simp only [PyData.depth] at un
  simp only [PyData.shown] at q hz
  cases vs with
  | mk l =>
    cases l with
    | nil =>
      have rd0 : ReadsAll hp [] zs as := rd
      cases rd0
      simp only [PyData.shownAll, listText_nil] at q
      exact call_list_repr_empty ⟨ob, kp _ _ g, gc⟩ (kp _ _ g) gd (q s.heap _ _ fun _ _ e => e)
    | cons y l => exact call_list_reprK g gc gd away (by simpa using all.length_eq) (fun i z e => all.item i z (by simpa using e)) gu (fun b _ => Clear.nil b) un kp q hz
theorem top_tuple {a : Addr} {ob : Obj} {vs : Array Value} {n : Nat} {zs : List PyData} {as bs : List Addr} (g : hp.get? a = some ob) (gc : ob.cls = .type "tuple") (gd : ob.data = .seq vs n) (rd : ReadsAll hp vs.toList zs as) (am : ReadAtMost hp (PyData.depthAll zs) bs)
    (all : ReprAllK P w bs hp (PyData.depthAll zs) vs.toList (PyData.shownAll zs)) (hz : (PyData.tuple zs).shown.length ≤ sizeLine) : ∃ T idr, ShowsBy P w hp a (.tuple zs) T idr := by
  have away : a ∉ bs := not_mem_of_deeper (Reads.tuple g gc gd rd) (by simp only [PyData.depth]; omega) am
  refine ⟨"tuple", "tuple.__repr__", PySem.F.slot_tuple_repr, PySem.F.slot_tuple_str, PySem.F.slot_tuple_format, fun s kp => ⟨ob, kp _ _ g, gc⟩, fun A E s Q gu un kp q => ?_⟩
  simp only [PyData.depth] at un
  simp only [PyData.shown] at q hz
  exact call_tuple_reprK g gc gd away all gu (fun b _ => Clear.nil b) un kp q hz
theorem top_dict {a : Addr} {ob : Obj} {es : Array DictEntry} {n : Nat} {kvs : List (PyData × PyData)} {as bs ks vs : List Addr} (g : hp.get? a = some ob) (gc : ob.cls = .type "dict") (gd : ob.data = .dict es n) (ns : (a == sysModules) = false)
    (rk : ReadsAll hp (es.toList.map (·.key)) (kvs.map (·.1)) as) (rv : ReadsAll hp (es.toList.map (·.val)) (kvs.map (·.2)) bs) (ak : ReadAtMost hp (PyData.depthAll (kvs.map (·.1))) ks) (av : ReadAtMost hp (PyData.depthAll (kvs.map (·.2))) vs)
    (k1 : ReprAllK P w ks hp (PyData.depthAll (kvs.map (·.1))) (es.toList.map (·.key)) (PyData.shownAll (kvs.map (·.1)))) (k2 : ReprAllK P w vs hp (PyData.depthAll (kvs.map (·.2))) (es.toList.map (·.val)) (PyData.shownAll (kvs.map (·.2)))) (hz : (PyData.dict kvs).shown.length ≤ sizeLine) :
    ∃ T idr, ShowsBy P w hp a (.dict kvs) T idr := by
  have d1 := PyData.depthAll_keys_le kvs
  have d2 := PyData.depthAll_vals_le kvs
  have both := (ak.mono d1).append (av.mono d2)
  have away : a ∉ ks ++ vs := not_mem_of_deeper (Reads.dict g gc gd rk rv) (by simp only [PyData.depth]; omega) both
  refine ⟨"dict", "dict.__repr__", PySem.F.slot_dict_repr, PySem.F.slot_dict_str, PySem.F.slot_dict_format, fun s kp => ⟨ob, kp _ _ g, gc⟩, fun A E s Q gu un kp q => ?_⟩
  simp only [PyData.depth] at un
  simp only [PyData.shown, PyData.shownKv_eq] at q
  refine call_dict_reprK g gc gd ns away (ReprEntriesK.of_two es.toList _ _ (k1.more_le ?_ d1) (k2.more_le ?_ d2)) gu (fun b _ => Clear.nil b) un kp q ?_
  · exact fun b hb => List.mem_append_left _ hb
  · exact fun b hb => List.mem_append_right _ hb
  · rw [← PyData.shownKv_eq]
    simpa only [PyData.shown] using hz
end
def reprX (d : D) : Bool := okR d && (py d).showable && decide ((py d).depth < 60) && decide ((py d).shown.length ≤ sizeLine)
def fReprX (env : Env) : List D → Option D
  | [d] => if reprX (sub ((bors d).foldl frzAt env) d) = true then some (.str (py (sub ((bors d).foldl frzAt env) d)).shown) else none
  | _ => none
/-- u shows z, as a flat thing or by its type's way -/
def Top (X : Cx) (s : Shared) (u : Value) (z : PyData) : Prop := (∃ a T idr, u = .ref a ∧ ShowsBy X.prog X.w s.heap a z T idr) ∨ Reads s.heap u z [] ∧ z.hasDict = false ∧ ∀ a, u ≠ .ref a
section
variable {X : Cx} {mg : Str → Option Value} {S : Addr → Prop} {σ σ' : St} {H : Hp} {pins : List (Addr × Obj)} {s : Shared}
theorem Ow.top (I : Inv X pins σ' H s) {B : List Addr} {v : V} {d : D} (o : Ow X.K mg S σ H B v d) (k : okR d = true) {u : Value} (r : RelV v u) (h : (py d).showable = true ∧ (py d).shown.length ≤ sizeLine) : Top X s u (py d) := by
  cases o with
  | non => cases r; exact .inr ⟨Reads.none, rfl, fun _ e => by cases e⟩
  | bl b => cases r; exact .inr ⟨Reads.bool b, rfl, fun _ e => by cases e⟩
  | int b => obtain ⟨t, rfl⟩ := r; exact .inr ⟨Reads.int b t, rfl, fun _ e => by cases e⟩
  | str b => obtain ⟨t, rfl⟩ := r; exact .inr ⟨Reads.str b t, rfl, fun _ e => by cases e⟩
  | tup i l =>
    cases r
    obtain ⟨its, rv, ⟨o, ho, hc, n, hd⟩, _⟩ := I.tuple i.sq
    obtain ⟨⟨as, hr⟩, bs, a1, k1⟩ := OwL.shows I l (by simpa [okR] using k) its rv (sh_tuple h)
    obtain ⟨T, idr, q⟩ := top_tuple ho hc hd hr a1 k1 h.2
    exact .inl ⟨_, T, idr, rfl, q⟩
  | lst i l =>
    cases r
    obtain ⟨its, rv, ⟨o, n, ho, hc, _, hd⟩, _⟩ := I.list i.sq
    obtain ⟨⟨as, hr⟩, bs, a1, k1⟩ := OwL.shows I l (by simpa [okR] using k) its rv (sh_list h)
    obtain ⟨T, idr, q⟩ := top_list ho hc hd hr a1 k1 h.2
    exact .inl ⟨_, T, idr, rfl, q⟩
  | scr i l => simp [okR] at k
  | own i _ l =>
    cases r
    obtain ⟨its, rv, ⟨o, n, ho, hc, _, hd⟩, _⟩ := I.list (.inl (.inl i))
    obtain ⟨⟨as, hr⟩, bs, a1, k1⟩ := OwL.shows I l (by simpa [okR] using k) its rv (sh_list h)
    obtain ⟨T, idr, q⟩ := top_list ho hc hd hr a1 k1 h.2
    exact .inl ⟨_, T, idr, rfl, q⟩
  | dic i l =>
    cases r
    obtain ⟨z, hs, vs, rel, o, es, ep, h1, h2, h3, h4, h5, h6⟩ := dk_of I.hok i.2.1
    obtain ⟨s1, s2⟩ := sh_dict h
    obtain ⟨⟨⟨as, r1⟩, _, a1, k1⟩, ⟨bs, r2⟩, _, a2, k2⟩ := OwL.showsK I l (by simpa [okR] using k) _ i.2.2 _ _ rel h5 s1 s2
    obtain ⟨T, idr, q⟩ := top_dict h1 h2.1 h3 hs r1 r2 a1 a2 k1 k2 h.2
    exact .inl ⟨_, T, idr, rfl, q⟩
  | odic i g _ l =>
    cases r
    obtain ⟨z, hs, vs, rel, o, es, ep, h1, h2, h3, h4, h5, h6⟩ := dk_of I.hok i
    obtain ⟨s1, s2⟩ := sh_dict h
    obtain ⟨⟨⟨as, r1⟩, _, a1, k1⟩, ⟨bs, r2⟩, _, a2, k2⟩ := OwL.showsK I l (by simpa [okR] using k) _ g _ _ rel h5 s1 s2
    obtain ⟨T, idr, q⟩ := top_dict h1 h2.1 h3 hs r1 r2 a1 a2 k1 k2 h.2
    exact .inl ⟨_, T, idr, rfl, q⟩
  | bor _ => simp [okR] at k
end
mutual
theorem okR_noBor : ∀ d, okR d = true → noBor d = true
  | .tup xs, h => by simpa [noBor] using okRL_noBor xs (by simpa [okR] using h)
  | .lst xs, h => by simpa [noBor] using okRL_noBor xs (by simpa [okR] using h)
  | .own xs, h => by simpa [noBor] using okRL_noBor xs (by simpa [okR] using h)
  | .dic _ xs, h => by simpa [noBor] using okRL_noBor xs (by simpa [okR] using h)
  | .odic _ xs, h => by simpa [noBor] using okRL_noBor xs (by simpa [okR] using h)
  | .scr _, h => by simp [okR] at h
  | .bor _, h => by simp [okR] at h
  | .exc _ _ _, h => by simp [okR] at h
  | .non, _ => rfl
  | .bl _, _ => rfl
  | .int _, _ => rfl
  | .str _, _ => rfl
theorem okRL_noBor : ∀ ds, okRL ds = true → noBorL ds = true
  | [], _ => rfl
  | d :: ds, h => by
    simp only [okRL, Bool.and_eq_true] at h
    simp only [noBorL, Bool.and_eq_true]
    exact ⟨okR_noBor d h.1, okRL_noBor ds h.2⟩
end
def rReprX (X : Cx) : List V → Hp → VK → Prop := fun vs H Q => ∃ v z, vs = [v] ∧ (∀ (pins : List (Addr × Obj)) (s : Shared) (σ : St), Inv X pins σ H s → ∀ u, RelV v u → Top X s u z) ∧ z.showable = true ∧ z.depth < 60 ∧ z.shown.length ≤ sizeLine ∧ Q (.str z.shown) H
section
variable {X : Cx} {W : WX} {k : Nat}
theorem call_reprX (Z : Sit X W k) : CallR X (.builtin "repr") (rReprX X) := by
  intro pins s σ H vs us Q I r h
  obtain ⟨v, z, rfl, rd, h1, h2, h3, q⟩ := h
  obtain ⟨u, rfl, ru⟩ : ∃ u, us = [u] ∧ RelV v u := by
    cases r with
    | cons a b =>
      cases b
      exact ⟨_, rfl, a⟩
  have un := Z.room.un
  rcases rd pins s σ I u ru with ⟨a, T, idr, rfl, S⟩ | ⟨rd, hd, nr⟩
  · refine call_repr_slot (by omega) (S.typeIs s fun _ _ e => e) S.slotRepr (S.call X.A.in1 X.xe s _ Z.quiet (by show X.A.units + 1 + z.depth < cLine; omega) (fun _ _ e => e) fun h' u tk kp => ⟨_, _, rfl, ?_⟩)
    exact ⟨.str _, H, I.kept kp, ⟨_, rfl⟩, q⟩
  · generalize hb : ([] : List Addr) = bs at rd
    cases rd with
    | none => exact PySem.P.repr_of_none ⟨.str _, H, I.tok _, ⟨_, rfl⟩, q⟩
    | bool b => exact PySem.P.repr_of_bool ⟨.str _, H, I.tok _, ⟨_, rfl⟩, q⟩
    | int i t => exact PySem.P.repr_of_int (by simpa [PyData.showable] using h1) ⟨.str _, H, I.tok _, ⟨_, rfl⟩, q⟩
    | str x t => exact PySem.P.repr_of_str ⟨.str _, H, I.tok _, ⟨_, rfl⟩, q⟩ h3
    | list a1 a2 a3 a4 => exact absurd rfl (nr _)
    | tuple a1 a2 a3 a4 => exact absurd rfl (nr _)
    | dict a1 a2 a3 a4 a5 => exact absurd rfl (nr _)
theorem b_reprX (Z : Sit X W k) : BiR X (.builtin "repr") fReprX := ⟨_, call_reprX Z, fun T env σ H A B vs ds d Q I o h q => by
  unfold fReprX at h
  split at h
  · rename_i e
    split at h
    · rename_i ok
      cases h
      obtain ⟨v, B1, rfl, o1, _⟩ := o.inv1
      unfold reprX at ok
      simp only [Bool.and_eq_true, decide_eq_true_eq] at ok
      obtain ⟨⟨⟨h1, h2⟩, h3⟩, h4⟩ := ok
      have main : ∃ B' S', Ow X.K X.mg S' σ H B' v (sub ((bors e).foldl frzAt env) e) := by
        obtain ⟨A', I', g1, g2, _⟩ := I.frzAll (bors e)
        by_cases hn : noBor e = true
        · rw [sub_id _ hn]
          exact ⟨_, _, o1⟩
        · by_cases hs : noBor (sub ((bors e).foldl frzAt env) e) = true
          · exact ⟨_, _, Ow.put I' (o1.weak fun p z => z.imp id fun ⟨i, z⟩ => ⟨i, g1 i p z⟩) (fun i hi _ _ => g2 i hi) hs⟩
          · have : noBor (sub ((bors e).foldl frzAt env) e) = true := okR_noBor _ h1
            exact absurd this hs
      obtain ⟨B', S', o'⟩ := main
      exact ⟨v, _, rfl, fun pins s σ' I' u r => o'.top I' h1 r ⟨h2, h4⟩, h2, h3, h4, q _ H [] (fun _ _ e => e) (by simp) (.str _)⟩
    · cases h
  · cases h⟩
end
end Dn
/-! Dn36: s.split(sep), sep.join(strs), text * int, dicts of the module's top. -/
namespace Dn
open PySem PySem.Spec L2
/-- a method of a text, one argument -/
def dM1 (F : Env → Str → D → Option D) (f g : Env → Out D) : Env → Out D := fun env => (f env).bind fun d env1 => match d with
  | .str a => (g env1).bind fun e env2 => match F env2 a e with
    | some d => .ok d env2
    | none => .bad
  | _ => .bad
def PureM (X : Cx) (r : V → List V → Hp → VK → Prop) (F : Env → Str → D → Option D) : Prop :=
  ∀ T env σ H A B v a e d Q, EnvOk X.K X.mg (TB T B) env σ H A → Ow X.K X.mg (SA A (TB T B)) σ H B v e → F env a e = some d →
    (∀ v H' B', (∀ b o, H b = some o → H' b = some o) → (∀ p ∈ B', H p = none) → Ow X.K X.mg (SA A (TB T B')) σ H' B' v d → Q v H') → r (.str a) [v] H Q
section
variable {X : Cx} {W : WX}
theorem se_m1 {to te : TE} {r : V → List V → Hp → VK → Prop} {F : Env → Str → D → Option D} {f g : Env → Out D} (hf : SE X W to f) (hg : SE X W te g) (hr : PureM X r F) : SE X W (tM1 r to te) (dM1 F f g) := fun T env σ H A Q I h => by
  unfold dM1 at h
  refine hf T env σ H A _ I ?_
  cases e : f env with
  | bad => rw [e] at h; exact h
  | err x env' => rw [e] at h; exact h
  | ok d env1 =>
    rw [e, Out.bind_ok] at h
    intro v H1 A1 B1 m1 I1 o1
    split at h
    · rename_i a
      have hv := o1.strv
      subst hv
      have zb : Ow X.K X.mg (SA A1 (TB T B1)) σ H1 [] (.str a) (.str a) := .str a
      have J1 : EnvOk X.K X.mg T env1 σ H1 A1 := I1.drop
      have n1 : Moved A A1 [] H H1 := m1.fewer fun p z => by cases z
      refine ⟨⟨a, rfl⟩, hg T env1 σ H1 A1 _ J1 ?_⟩
      cases e2 : g env1 with
      | bad => rw [e2] at h; exact h
      | err x env2 =>
        rw [e2] at h
        exact fun H' A' n e' => h H' A' (n1.trans n fun p z => by cases z) e'
      | ok d2 env2 =>
        rw [e2, Out.bind_ok] at h
        intro v2 H2 A2 B2 m2 I2 o2
        split at h
        · rename_i d3 e3
          refine hr T env2 σ H2 A2 B2 v2 a d2 d3 Q I2 o2 e3 fun v3 H3 B3 k nb o => ?_
          exact h v3 H3 A2 B3 (n1.trans (m2.trans (B := B3) (Moved.grown (A := A2) k nb) fun p z => .inr (.inl z)) fun p z => .inr (.inl z)) (I2.drop.grow k nb fun p z => o.there p z) o
        · exact h.elim
    · exact h.elim
theorem ow_strs {K : PySem.W.Frag} {mg : Str → Option Value} {S : Addr → Prop} {σ : St} {H : Hp} : ∀ ys : List Str, OwL K mg S σ H [] (ys.map V.str) (ys.map D.str)
  | [] => .nil
  | y :: ys => OwL.cons (A := []) (B := []) (.str y) (ow_strs ys) (by simp)
/-! ### split -/
def fSplit (_ : Env) (a : Str) : D → Option D
  | .str b => if (b.length == 0) = false ∧ a.length + 2 ≤ sizeLine then some (.own ((Txt.split a b).map D.str)) else none
  | _ => none
theorem pm_split : PureM X (fun x xs H Q => ∃ a b, x = .str a ∧ xs = [.str b] ∧ (b.length == 0) = false ∧ a.length + 2 ≤ sizeLine ∧ rNewStrs (Txt.split a b) H Q) fSplit := by
  intro T env σ H A B v a e d Q I o hf q
  unfold fSplit at hf
  split at hf
  · rename_i b
    split at hf
    · rename_i hc
      cases hf
      have hv := o.strv
      subst hv
      refine ⟨a, b, rfl, rfl, hc.1, hc.2, fun p np => ?_⟩
      exact q _ _ [p] (fun b u e => by rw [upd_ne (ne_of_none e np)]; exact e) (by simp [np]) (Ow.own (A := []) upd_same (by simp) (ow_strs _))
    · cases hf
  · cases hf
theorem de_split {o e : Expr} {apos pos : Pos} {f g : Env → Out D} (ho : DE X W o f) (he : DE X W e g) (hs : starEach [e] X.env = [(false, eval e X.env)] := by rfl) (hbase : attributeBase o "split" X.env (eval o X.env) = eval o X.env := by rfl) (hline : (apos.endLine == pos.line) = true := by rfl) :
    DE X W (.Call (.Attribute o "split" apos) [e] [] pos) (dM1 fSplit f g) := let ⟨_, a, b⟩ := ho; let ⟨_, c, d⟩ := he; ⟨_, pe_split a c hs hbase hline, se_m1 b d pm_split⟩
/-! ### join -/
def fJoin (env : Env) (a : Str) (d : D) : Option D := ((rd env d).bind seqA).bind fun ds => (strsD ds).bind fun ys => if (ys.map (·.length)).sum + ys.length * a.length ≤ 16777216 then some (.str (Txt.join a ys)) else none
theorem pm_join : PureM X (fun x xs H Q => ∃ a p, ∃ ys : List Str, x = .str a ∧ xs = [.ref p] ∧ (SqL X.K H p (ys.map V.str) ∨ SqT X.K H p (ys.map V.str)) ∧
    (ys.map (·.length)).sum + ys.length * a.length ≤ 16777216 ∧ Q (.str (Txt.join a ys)) H) fJoin := by
  intro T env σ H A B v a e d Q I o hf q
  unfold fJoin at hf
  obtain ⟨ds, h1, h2⟩ := Option.bind_eq_some_iff.mp hf
  obtain ⟨c, h3, h4⟩ := Option.bind_eq_some_iff.mp h1
  obtain ⟨ys, h5, h6⟩ := Option.bind_eq_some_iff.mp h2
  split at h6
  · rename_i hz
    cases h6
    obtain ⟨B2, o2⟩ := I.rd o h3
    obtain ⟨p, ws, B3, rfl, sq, ol⟩ := o2.seqA h4
    have hw := ol.strs h5
    subst hw
    exact ⟨a, p, ys, rfl, rfl, sq, hz, q _ _ [] (fun _ _ e => e) (by simp) (.str _)⟩
  · cases h6
theorem de_join {o e : Expr} {apos pos : Pos} {f g : Env → Out D} (ho : DE X W o f) (he : DE X W e g) (hs : starEach [e] X.env = [(false, eval e X.env)] := by rfl) (hbase : attributeBase o "join" X.env (eval o X.env) = eval o X.env := by rfl) (hline : (apos.endLine == pos.line) = true := by rfl) :
    DE X W (.Call (.Attribute o "join" apos) [e] [] pos) (dM1 fJoin f g) := let ⟨_, a, b⟩ := ho; let ⟨_, c, d⟩ := he; ⟨_, pe_join a c hs hbase hline, se_m1 b d pm_join⟩
end
/-! ### text * int -/
theorem mulOk_small {a : Str} {n : Int} (h : 1 ≤ n ∧ n ≤ 1000 ∧ a.length ≤ 1000) : PySem.MulOk a n := by
  obtain ⟨h1, h2, h3⟩ := h
  refine ⟨?_, fun _ _ => ?_, fun _ _ => ?_⟩
  · rw [decide_eq_false (show ¬ n < -(2 ^ 63 : Int) by omega), decide_eq_false (show ¬ n ≥ 2 ^ 63 by omega)]; rfl
  · have : (1000 : Int) ≤ (2 ^ 63 - 1) / n := by
      rw [Int.le_ediv_iff_mul_le (by omega)]
      omega
    omega
  · have : a.length * n.toNat ≤ 1000 * 1000 := Nat.mul_le_mul h3 (by omega)
    exact decide_eq_false (by have : sizeLine = 16777216 := rfl; omega)
def fMulS (_ : Env) : List D → Option D
  | [.str a, .int n] => if 1 ≤ n ∧ n ≤ 1000 ∧ a.length ≤ 1000 then some (.str (Txt.mul a n)) else none
  | _ => none
section
variable {X : Cx} {W : WX}
theorem op_mulS : OpR X (binaryOp .Mult) (fun x y H Q => ∃ a n, x = .str a ∧ y = .int n ∧ PySem.MulOk a n ∧ Q (.str (Txt.mul a n)) H) := by
  intro pins s σ H x y v u Q I rx ry h
  obtain ⟨a, n, rfl, rfl, ok, q⟩ := h
  obtain ⟨t, rfl⟩ := rx
  obtain ⟨t2, rfl⟩ := ry
  exact PySem.SB.mul ok fun t' k => ⟨.str _, H, I.tok k, ⟨t', rfl⟩, q⟩
theorem pr_mulS : PureR X (r2 fun x y H Q => ∃ a n, x = .str a ∧ y = .int n ∧ PySem.MulOk a n ∧ Q (.str (Txt.mul a n)) H) fMulS := by
  intro T env σ H A B vs ds d Q I o hf q
  unfold fMulS at hf
  split at hf
  · split at hf
    · rename_i hc
      cases hf
      obtain ⟨v, u, B1, B2, rfl, o1, o2, _, _⟩ := o.inv2
      exact ⟨_, _, o1.strv, o2.intv, mulOk_small hc, q _ _ [] (fun _ _ e => e) (by simp) (.str _)⟩
    · cases hf
  · cases hf
theorem de_mulS {a b : Expr} {pos : Pos} {f g : Env → Out D} (ha : DE X W a f) (hb : DE X W b g) : DE X W (.BinOp a .Mult b pos) (dOp fMulS (dCons f (dCons g dNil))) := by
  obtain ⟨t, p, s⟩ := ha
  obtain ⟨u, p', s'⟩ := hb
  exact ⟨_, pe_op op_mulS p p', se_op s s' pr_mulS⟩
end
/-! ### a dict of the module's top: texts to texts -/
structure GDct (K : PySem.W.Frag) (w : World) (mg : Str → Option Value) (x : Str) (kvs : List (Str × Str)) : Prop where
  ex : ∃ d es n, mg x = some (.ref d) ∧ KDict K w d es n ∧ ∀ z, ∃ r, PySem.W.nsIn K d z = some r ∧ match kvs.lookup z with
    | some v => ∃ t, r = some (.str v t)
    | none => r = none
/-- made of two entries -/
theorem gdct2 {K : PySem.W.Frag} {w : World} {h : Heap} {mg : Str → Option Value} {x k1 k2 v1 v2 : Str} {d : Addr} {n : Nat} {t1 t2 u1 u2 : Tok} (kin : K.In h) (gl : h.Ns mainGlobals mg) (hx : PySem.W.nsIn K mainGlobals x = some (some (.ref d)))
    (hl : K.lookup d = some ⟨.type "dict", none, .dict #[⟨PyData.keyHash w.params k1, .str k1 t1, .str v1 u1⟩, ⟨PyData.keyHash w.params k2, .str k2 t2, .str v2 u2⟩] n, #[]⟩) (lo : (d == sysModules) = false) : GDct K w mg x [(k1, v1), (k2, v2)] := by
  refine ⟨d, _, n, PySem.W.mg_of kin gl hx, ⟨hl, ⟨⟨k1, t1, rfl, rfl⟩, ⟨k2, t2, rfl, rfl⟩, trivial⟩, lo⟩, fun z => ?_⟩
  unfold PySem.W.nsIn
  rw [hl]
  have sym : ∀ a b : Str, (a == b) = (b == a) := fun a b => by
    by_cases h : a = b
    · subst h; rfl
    · rw [beq_eq_false_iff_ne.mpr h, beq_eq_false_iff_ne.mpr (Ne.symm h)]
  simp only [List.find?_cons, List.find?_nil, List.lookup_cons, List.lookup_nil, Value.isStr]
  rw [sym z k1, sym z k2]
  cases c1 : k1 == z with
  | true => exact ⟨_, rfl, u1, rfl⟩
  | false =>
    cases c2 : k2 == z with
    | true => exact ⟨_, rfl, u2, rfl⟩
    | false => exact ⟨none, rfl, rfl⟩
section
variable {X : Cx} {W : WX}
def dGIx (kvs : List (Str × Str)) (f : Env → Out D) : Env → Out D := fun env => (f env).bind fun d env1 => match d with
  | .str z => match kvs.lookup z with
    | some v => .ok (.str v) env1
    | none => .bad
  | _ => .bad
def dGIn (kvs : List (Str × Str)) (f : Env → Out D) : Env → Out D := fun env => (f env).bind fun d env1 => match d with
  | .str z => .ok (.bl (kvs.lookup z).isSome) env1
  | _ => .bad
def dGNin (kvs : List (Str × Str)) (f : Env → Out D) : Env → Out D := fun env => (f env).bind fun d env1 => match d with
  | .str z => .ok (.bl (!(kvs.lookup z).isSome)) env1
  | _ => .bad
theorem de_gdix {x : Str} {kvs : List (Str × Str)} {b : Expr} {p pos : Pos} {g : Env → Out D} (G : GDct X.K X.w X.mg x kvs) (hb : DE X W b g) (hs : PlainIx b) (hg : Gl X x := by rfl) (hd : (x == ("__debug__" : Str)) = false := by decide) : DE X W (.Subscript (.Name x p) b pos) (dGIx kvs g) := by
  obtain ⟨a, es, n, hm, D, hk⟩ := G.ex
  obtain ⟨u, p', s'⟩ := hb
  refine ⟨_, pe_ix ix_kdict (pe_glob (v := .ref a) hg hm rfl hd) p' hs, fun T env σ H A Q I h => ?_⟩
  unfold dGIx at h
  refine s' T env σ H A _ I ?_
  cases e : g env with
  | bad => rw [e] at h; exact h
  | err x env' => rw [e] at h; exact h
  | ok d env1 =>
    rw [e, Out.bind_ok] at h
    intro v H1 A1 B1 m1 I1 o1
    split at h
    · rename_i z
      have hv := o1.strv
      subst hv
      obtain ⟨r, h1, h2⟩ := hk z
      split at h
      · rename_i w e2
        rw [e2] at h2
        obtain ⟨t, rfl⟩ := h2
        refine ⟨a, z, .str w, rfl, rfl, ⟨es, n, _, D.at_, D.lit, h1, t, rfl⟩, ?_⟩
        exact h (.str w) H1 A1 [] (m1.fewer fun p z => by cases z) (I1.drop.weak tbn) (.str w)
      · exact h.elim
    · exact h.elim
theorem se_gdin {a : Addr} {es : Array DictEntry} {n : Nat} {x : Str} {kvs : List (Str × Str)} {u : TE} {g : Env → Out D} {F : Bool → Bool} (hk : ∀ z, ∃ r, PySem.W.nsIn X.K a z = some r ∧ match kvs.lookup z with
    | some v => ∃ t, r = some (.str v t)
    | none => r = none) (s' : SE X W u g) : SE X W (tOp (fun x y H Q => ∃ (z : Str) (r : Option Value), x = .str z ∧ y = .ref a ∧ PySem.W.nsIn X.K a z = some r ∧ Q (.bl (F r.isSome)) H) u (tC (.ref a))) (fun env => (g env).bind fun d env1 => match d with
  | .str z => .ok (.bl (F (kvs.lookup z).isSome)) env1
  | _ => .bad) := fun T env σ H A Q I h => by
  refine s' T env σ H A _ I ?_
  simp only at h
  cases e : g env with
  | bad => rw [e] at h; exact h
  | err x env' => rw [e] at h; exact h
  | ok d env1 =>
    rw [e, Out.bind_ok] at h
    intro v H1 A1 B1 m1 I1 o1
    split at h
    · rename_i z
      have hv := o1.strv
      subst hv
      obtain ⟨r, h1, h2⟩ := hk z
      have e3 : r.isSome = (kvs.lookup z).isSome := by
        cases e2 : kvs.lookup z with
        | none => rw [e2] at h2; rw [h2]; rfl
        | some w =>
          rw [e2] at h2
          obtain ⟨t, rfl⟩ := h2
          rfl
      refine ⟨z, r, rfl, rfl, h1, ?_⟩
      rw [e3]
      exact h _ H1 A1 [] (m1.fewer fun p z => by cases z) (I1.drop.weak tbn) (.bl _)
    · exact h.elim
theorem de_gdin {x : Str} {kvs : List (Str × Str)} {b : Expr} {p pos : Pos} {g : Env → Out D} (G : GDct X.K X.w X.mg x kvs) (hb : DE X W b g) (hg : Gl X x := by rfl) (hd : (x == ("__debug__" : Str)) = false := by decide) (hm : behindInMarks .In (.Name x p) = false := by rfl) : DE X W (.Compare b [.In] [.Name x p] pos) (dGIn kvs g) := by
  obtain ⟨a, es, n, h0, D, hk⟩ := G.ex
  obtain ⟨u, p', s'⟩ := hb
  exact ⟨_, pe_cmpR (op_in_kd D) p' (pe_glob (v := .ref a) hg h0 rfl hd) hm, se_gdin (es := es) (n := n) (x := x) (F := fun b => b) hk s'⟩
theorem dt_gdin {x : Str} {kvs : List (Str × Str)} {b : Expr} {p pos : Pos} {g : Env → Out D} (G : GDct X.K X.w X.mg x kvs) (hb : DE X W b g) (hg : Gl X x := by rfl) (hd : (x == ("__debug__" : Str)) = false := by decide) (hm : behindInMarks .In (.Name x p) = false := by rfl) : DT X W (.Compare b [.In] [.Name x p] pos) (dB (dGIn kvs g)) := by
  obtain ⟨a, es, n, h0, D, hk⟩ := G.ex
  obtain ⟨u, p', s'⟩ := hb
  exact ⟨_, pt_cmpR (op_in_kd D) p' (pe_glob (v := .ref a) hg h0 rfl hd) hm, st_dB (se_gdin (es := es) (n := n) (x := x) (F := fun b => b) hk s')⟩
theorem dt_gdnin {x : Str} {kvs : List (Str × Str)} {b : Expr} {p pos : Pos} {g : Env → Out D} (G : GDct X.K X.w X.mg x kvs) (hb : DE X W b g) (hg : Gl X x := by rfl) (hd : (x == ("__debug__" : Str)) = false := by decide) (hm : behindInMarks .NotIn (.Name x p) = false := by rfl) : DT X W (.Compare b [.NotIn] [.Name x p] pos) (dB (dGNin kvs g)) := by
  obtain ⟨a, es, n, h0, D, hk⟩ := G.ex
  obtain ⟨u, p', s'⟩ := hb
  exact ⟨_, pt_cmpR (op_notIn_kd D) p' (pe_glob (v := .ref a) hg h0 rfl hd) hm, st_dB (se_gdin (es := es) (n := n) (x := x) (F := fun b => !b) hk s')⟩
/-! ### step by step -/
variable (env e1 : Env) (f g : Env → Out D) (d e : D) (a b z : Str) (n : Int) (xs : List D) (kvs : List (Str × Str)) (FM : Env → Str → D → Option D)
def m1O3 (env2 : Env) (o : Option D) : Out D := match o with
  | some d => .ok d env2
  | none => .bad
def m1O2 (F : Env → Str → D → Option D) (a : Str) (o : Out D) : Out D := o.bind fun e env2 => m1O3 env2 (F env2 a e)
def m1O1 (F : Env → Str → D → Option D) (g : Env → Out D) (d : D) (env1 : Env) : Out D := match d with
  | .str a => m1O2 F a (g env1)
  | _ => .bad
def m1O (F : Env → Str → D → Option D) (g : Env → Out D) (o : Out D) : Out D := o.bind fun d env1 => m1O1 F g d env1
@[simp] theorem z_m1' : dM1 FM f g env = m1O FM g (f env) := by
  unfold dM1 m1O
  refine congrArg _ (funext fun d => funext fun env1 => ?_)
  cases d <;> rfl
@[simp] theorem z_m1a : m1O FM g (.ok d e1) = m1O1 FM g d e1 := (Eq.refl _).trans (Eq.refl _)
@[simp] theorem z_m1b : m1O1 FM g (.str a) e1 = m1O2 FM a (g e1) := (Eq.refl _).trans (Eq.refl _)
@[simp] theorem z_m1c : m1O2 FM a (.ok e e1) = m1O3 e1 (FM e1 a e) := (Eq.refl _).trans (Eq.refl _)
@[simp] theorem z_m1d : m1O3 e1 (some d) = .ok d e1 := (Eq.refl _).trans (Eq.refl _)
@[simp] theorem z_split : fSplit env a (.str b) = if (b.length == 0) = false ∧ a.length + 2 ≤ sizeLine then some (.own ((Txt.split a b).map D.str)) else none := (Eq.refl _).trans (Eq.refl _)
@[simp] theorem z_join : fJoin env a d = ((rd env d).bind seqA).bind fun ds => (strsD ds).bind fun ys => if (ys.map (·.length)).sum + ys.length * a.length ≤ 16777216 then some (.str (Txt.join a ys)) else none := (Eq.refl _).trans (Eq.refl _)
@[simp] theorem z_mulS : fMulS env [.str a, .int n] = if 1 ≤ n ∧ n ≤ 1000 ∧ a.length ≤ 1000 then some (.str (Txt.mul a n)) else none := (Eq.refl _).trans (Eq.refl _)
def gxO2 (env1 : Env) (o : Option Str) : Out D := match o with
  | some v => .ok (.str v) env1
  | none => .bad
def gxO1 (kvs : List (Str × Str)) (d : D) (env1 : Env) : Out D := match d with
  | .str z => gxO2 env1 (kvs.lookup z)
  | _ => .bad
def gxO (kvs : List (Str × Str)) (o : Out D) : Out D := o.bind fun d env1 => gxO1 kvs d env1
@[simp] theorem z_gix : dGIx kvs f env = gxO kvs (f env) := by
  unfold dGIx gxO
  refine congrArg _ (funext fun d => funext fun env1 => ?_)
  cases d with
  | str z => simp only [gxO1, gxO2]
  | _ => rfl
@[simp] theorem z_gx0 : gxO kvs (.ok d e1) = gxO1 kvs d e1 := (Eq.refl _).trans (Eq.refl _)
@[simp] theorem z_gx1 : gxO1 kvs (.str z) e1 = gxO2 e1 (kvs.lookup z) := (Eq.refl _).trans (Eq.refl _)
@[simp] theorem z_gx2 : gxO2 e1 (some z) = .ok (.str z) e1 := (Eq.refl _).trans (Eq.refl _)
def giO1 (kvs : List (Str × Str)) (F : Bool → Bool) (d : D) (env1 : Env) : Out D := match d with
  | .str z => .ok (.bl (F (kvs.lookup z).isSome)) env1
  | _ => .bad
def giO (kvs : List (Str × Str)) (F : Bool → Bool) (o : Out D) : Out D := o.bind fun d env1 => giO1 kvs F d env1
@[simp] theorem z_gin : dGIn kvs f env = giO kvs (fun b => b) (f env) := by
  unfold dGIn giO
  refine congrArg _ (funext fun d => funext fun env1 => ?_)
  cases d <;> rfl
@[simp] theorem z_gnin : dGNin kvs f env = giO kvs (fun b => !b) (f env) := by
  unfold dGNin giO
  refine congrArg _ (funext fun d => funext fun env1 => ?_)
  cases d <;> rfl
@[simp] theorem z_gi0 (F : Bool → Bool) : giO kvs F (.ok d e1) = giO1 kvs F d e1 := (Eq.refl _).trans (Eq.refl _)
@[simp] theorem z_gi1 (F : Bool → Bool) : giO1 kvs F (.str z) e1 = .ok (.bl (F (kvs.lookup z).isSome)) e1 := (Eq.refl _).trans (Eq.refl _)
end
end Dn
/-! Dn37: x + new list, where the things of x move into the new list. -/
namespace Dn
open PySem PySem.Spec L2
def amO2 (i : Nat) (e : D) (env1 : Env) (o : Option (List D)) : Out D := match e, o with
  | .own ys, some xs => if xs.length + ys.length ≤ sizeLine then .ok (.own (xs ++ ys)) (env1.set i none) else .bad
  | _, _ => .bad
/-- what slot i holds, an own list, and new things behind: the slot is left empty -/
def dAddMv (i : Nat) (g : Env → Out D) : Env → Out D := fun env => if (ownAt env i).isSome = true then (g env).bind fun e env1 => amO2 i e env1 (ownAt env1 i) else .bad
section
variable {X : Cx} {W : WX}
theorem se_addMv {i : Nat} {u : TE} {g : Env → Out D} (hg : SE X W u g) : SE X W (tOp rCat (tVar i) u) (dAddMv i g) := fun T env σ H A Q I h => by
  unfold dAddMv at h
  split at h
  · rename_i h0
    obtain ⟨xs0, h0⟩ := Option.isSome_iff_exists.mp h0
    obtain ⟨_, v0, s0, o0⟩ := I.slot i _ (ownAt_some h0)
    refine ⟨v0, s0, hg T env σ H A _ I ?_⟩
    cases e : g env with
    | bad => rw [e] at h; exact h
    | err x env' => rw [e] at h; exact h
    | ok d env1 =>
      rw [e, Out.bind_ok] at h
      intro v2 H1 A1 B1 m1 I1 o1
      unfold amO2 at h
      split at h
      · rename_i ys xs e2
        split at h
        · rename_i hz
          have ei := ownAt_some e2
          obtain ⟨nb, v, s, o⟩ := I1.slot i _ ei
          rw [s0] at s
          cases s
          have J := I1.take ei
          have thr := I1.there
          have sep := I1.sep i
          generalize hG : A1 i = G at o J sep
          have hGm : ∀ p, p ∈ G → p ∈ A1 i := fun p z => by rw [hG]; exact z
          cases o with
          | @own l Ax vs _ hl nl lx =>
            cases o1 with
            | @own b By us _ hb nlb ly =>
              refine ⟨l, b, vs, us, rfl, rfl, hl, hb, by rw [lx.length, ly.length]; exact hz, fun p np => ?_⟩
              have kp := keep_new (ho := HO.lst (vs ++ us)) np
              -- the parts stand apart
              have dis : ∀ q ∈ Ax, q ∉ By := fun q hq z => sep q (List.mem_cons_of_mem _ hq) (.inr (List.mem_cons_of_mem _ z))
              have ss : ∀ q, SA (setA A1 i []) (TB (TB T (b :: By)) (l :: Ax)) q → SA A1 (TB T (b :: By)) q := fun q z => by
                rcases z with (z | z) | ⟨j, z⟩
                · exact .inl z
                · exact .inr ⟨i, hGm q z⟩
                · exact .inr ⟨j, setA_sub j q z⟩
              obtain ⟨C, oc, hC⟩ := OwL.append (lx.weak ss) (ly.weak ss) dis
              · skip
                have there : ∀ q ∈ C, H1 q ≠ none := fun q hq => by
                  rcases (hC q).mp hq with z | z
                  · exact thr q (.inr ⟨i, hGm q (List.mem_cons_of_mem _ z)⟩)
                  · exact thr q (.inl (.inr (List.mem_cons_of_mem _ z)))
                have npC : p ∉ C := fun z => there p z np
                have I2 : EnvOk X.K X.mg (TB (TB (TB T (b :: By)) (l :: Ax)) [p]) (env1.set i none) σ (upd H1 p (.lst (vs ++ us))) (setA A1 i []) := J.grow kp (new_one np) fun q hq => by
                  rw [List.mem_singleton] at hq; subst hq; rw [upd_same]; simp
                have sb : ∀ q, TB T (p :: C) q → TB (TB (TB T (b :: By)) (l :: Ax)) [p] q := fun q z => by
                  rcases z with z | z
                  · exact .inl (.inl (.inl z))
                  · rcases List.mem_cons.mp z with z | z
                    · exact .inr (List.mem_singleton.mpr z)
                    · rcases (hC q).mp z with z | z
                      · exact .inl (.inr (List.mem_cons_of_mem _ z))
                      · exact .inl (.inl (.inr (List.mem_cons_of_mem _ z)))
                refine h _ _ (setA A1 i []) (p :: C) ⟨fun b' u' e' nb' => kp b' u' (m1.keep b' u' e' nb'), fun q z => ?_⟩ (I2.weak sb) (.own upd_same npC (oc.chg (Bp := fun _ => True) ⟨fun b' u' e' _ => kp b' u' e', fun b' hb' z => ?_⟩ (fun _ _ => trivial) fun _ _ e' => .inr e'))
                · rcases z with z | ⟨j, z⟩
                  · rcases List.mem_cons.mp z with z | z
                    · subst z; exact m1.back np
                    · rcases (hC q).mp z with z | z
                      · exact m1.new q (.inr ⟨i, hGm q (List.mem_cons_of_mem _ z)⟩)
                      · exact m1.new q (.inl (List.mem_cons_of_mem _ z))
                  · exact m1.new q (.inr ⟨j, setA_sub j q z⟩)
                · rcases z with z | z
                  · rcases sb b' z with z | z
                    · exact .inl z
                    · rw [List.mem_singleton] at z; subst z; exact absurd np hb'
                  · exact .inr z
        · exact h.elim
      · exact h.elim
  · exact h.elim
theorem de_addMv (i : Nat) {x : Str} {p pos : Pos} {b : Expr} {g : Env → Out D} (hb : DE X W b g) (hN : X.N[i]? = some x := by rfl) (hv : Vis X.env.scope x := by first | exact Or.inl rfl | exact Or.inr (Or.inl rfl) | exact Or.inr (Or.inr rfl)) (hd : (x == ("__debug__" : Str)) = false := by decide)
    (hcd : (x == ("__classdict__" : Str)) = false := by decide) : DE X W (.BinOp (.Name x p) .Add b pos) (dAddMv i g) := let ⟨_, c, d⟩ := hb; ⟨_, pe_op op_cat (pe_var hN hv hd hcd) c, se_addMv d⟩
variable (env e1 : Env) (g : Env → Out D) (d : D) (i : Nat) (xs ys : List D)
def amO (i : Nat) (o : Out D) : Out D := o.bind fun e env1 => amO2 i e env1 (ownAt env1 i)
@[simp] theorem z_addMv : dAddMv i g env = if (ownAt env i).isSome = true then amO i (g env) else .bad := (Eq.refl _).trans (Eq.refl _)
@[simp] theorem z_am0 : amO i (.ok d e1) = amO2 i d e1 (ownAt e1 i) := (Eq.refl _).trans (Eq.refl _)
@[simp] theorem z_am2 : amO2 i (.own ys) e1 (some xs) = if xs.length + ys.length ≤ sizeLine then .ok (.own (xs ++ ys)) (e1.set i none) else .bad := (Eq.refl _).trans (Eq.refl _)
end
end Dn
/-! Dn38: raise X() of an own class, try / except X. -/
namespace Dn
open PySem PySem.Spec L2 PyProof.Rows
abbrev bmVE : List Value := [.type "ValueError", .type "Exception", .type "BaseException", .type "object"]
/-- an own class of errors under ValueError, without own __init__ -/
structure ExcD (K : PySem.W.Frag) (mg : Str → Option Value) (x : Str) : Prop where
  ex : ∃ C : Addr, mg x = some (.ref C) ∧ PySem.W.excIn K C bmVE "ValueError.__new__" = true ∧ PySem.W.keepIn K (.ref C) = true ∧ PySem.W.subIn K (.ref C) (.type "BaseException") = some true ∧ PySem.W.typeIn K (.ref C) = some (.type "type") ∧ PySem.W.hasDictIn K C = true
theorem excD {K : PySem.W.Frag} {h : Heap} {mg : Str → Option Value} {x : Str} {C : Addr} (kin : K.In h) (gl : h.Ns mainGlobals mg) (a : PySem.W.nsIn K mainGlobals x = some (some (.ref C))) (b : PySem.W.excIn K C bmVE "ValueError.__new__" = true) (c : PySem.W.keepIn K (.ref C) = true)
    (d : PySem.W.subIn K (.ref C) (.type "BaseException") = some true) (e : PySem.W.typeIn K (.ref C) = some (.type "type")) (f : PySem.W.hasDictIn K C = true) : ExcD K mg x := ⟨C, PySem.W.mg_of kin gl a, b, c, d, e, f⟩
/-- whether the class x is under the class y -/
def SubD (K : PySem.W.Frag) (mg : Str → Option Value) (x y : Str) (b : Bool) : Prop := ∀ A C : Addr, mg x = some (.ref A) → mg y = some (.ref C) → PySem.W.subIn K (.ref A) (.ref C) = some b
theorem subD {K : PySem.W.Frag} {h : Heap} {mg : Str → Option Value} {x y : Str} {A C : Addr} {b : Bool} (kin : K.In h) (gl : h.Ns mainGlobals mg) (ax : PySem.W.nsIn K mainGlobals x = some (some (.ref A))) (ay : PySem.W.nsIn K mainGlobals y = some (some (.ref C))) (s : PySem.W.subIn K (.ref A) (.ref C) = some b) : SubD K mg x y b := fun A' C' h1 h2 => by
  have e1 := PySem.W.mg_of kin gl ax
  have e2 := PySem.W.mg_of kin gl ay
  rw [h1] at e1
  rw [h2] at e2
  cases e1
  cases e2
  exact s
section
variable {X : Cx} {W : WX} {k : Nat} {fx : Nat → Bool}
/-- X() -/
theorem pmk_own0 {C : Addr} {bmB : List Value} {B newId initId : String} {x : Str} {p pos : Pos} (F : ExcBaseFacts B newId initId bmB) (q : PySem.W.excIn X.K C bmB newId = true) (gC : X.mg x = some (.ref C)) (kC : PySem.W.keepIn X.K (.ref C) = true) (r : Raises X (.ref C)) (hg : Gl X x)
    (hdb : (x == ("__debug__" : Str)) = false := by decide) : PMk X (.Call (.Name x p) [] [] pos) (fun _ H Q => Q (.ref C) none H) := by
  intro pins s σ H Q I h
  refine wpAny_Call_Name_kw (ld_glob I hg gC ?_ hdb)
  apply PySem.W.callWith_K0 I.kIn kC
  show wpAny _ _ (call (.ref C) []) _ _ _
  obtain ⟨bm, N, nm, qn, bs, hdct, sn, sub, ab, col, dd, k0, k1, k2, k3, k5, mN, hC, hN, hni, T⟩ := exc_obj I.kIn q
  refine wpAny_call_exc_subT F T hC hN hni (fun h' e hm => ?_) (Nat.zero_le _)
  exact mk_of I hm r h (I.hok.gone hm.new)
def dRaise (x : Str) : Env → SOut := fun env => .err { cls := x } env
theorem ds_raise {x : Str} {p pos pos2 : Pos} (Z : Sit X W k) (tk : Takes X W) (E : ExcD X.K X.mg x) (hg : Gl X x := by rfl) (hdb : (x == ("__debug__" : Str)) = false := by decide) : DS X W fx (.Raise (some (.Call (.Name x p) [] [] pos)) none pos2) (dRaise x) := by
  obtain ⟨C, gC, q, kC, h1, h2, _⟩ := E.ex
  refine ⟨_, ps_raise Z.calm tk (pmk_own0 PySem.F.excBase_ValueError q gC kC (raises_own h1 h2) hg hdb), fun T env σ H A N I h => ?_⟩
  exact h σ H A .refl I .refl C gC rfl
/-- a def's own wish is taken -/
theorem tk_def {P : Program} {w : World} {K : PySem.W.Frag} {mg : Str → Option Value} {base : Heap} {N : List Str} {qual : Str} {scope : Scope} {f : Addr} {cdv : Value} {A : Around} {outer : List PySem.Env} {s : Shared} {H : Hp} {E : XK} : Takes (cxD P w K mg base N qual scope f cdv A outer s H E) (wDef E) := takes_of rfl rfl rfl rfl
theorem Sit.tr (Z : Sit X W k) {pn : List (Addr × Obj)} {xe : Value → Shared → Prop} {W' : WX} (tk : Takes (X.tr pn xe) W') (po : PassesOwn (model X.prog X.w) X.A X.env xe) : Sit (X.tr pn xe) W' k := ⟨Z.room, Z.quiet, Z.calm, Z.nd, po, fun σ => passAt tk σ⟩
/-! ### try -/
/-- what a suite may end with: no error -/
def noErr : SOut → SOut
  | .err _ _ => .bad
  | o => o
def dHandle (x : Exn) (env : Env) : List ((Str → Option Bool) × (Env → SOut)) → SOut
  | [] => .err x env
  | (m, g) :: r => match m x.cls with
    | some true => noErr (g env)
    | some false => dHandle x env r
    | none => .bad
def dTry (g : Env → SOut) (hs : List ((Str → Option Bool) × (Env → SOut))) : Env → SOut := fun env => match g env with
  | .err x env' => dHandle x env' hs
  | o => o
/-- the reading of statements that is what is wanted itself -/
def canon (X : Cx) (W : WX) (fx : Nat → Bool) (g : Env → SOut) : TS := fun N σ H => ∃ T env A, EnvOk X.K X.mg T env σ H A ∧ WS X W fx T A σ H (g env) N
theorem canon_of {st : List Stmt} {g : Env → SOut} (h : DSs X W fx st g) : PSs X st (canon X W fx g) := by
  obtain ⟨t, p, q⟩ := h
  exact ⟨fun pins s σ H D I ⟨T, env, A, J, w⟩ => p.run pins s σ H D I (q T env σ H A D J w)⟩
/-- the handlers, each with its class, its test and its suite's denotation -/
inductive DHs (X : Cx) (fx : Nat → Bool) : List ExceptHandler → List ((Str → Option Bool) × (Env → SOut)) → Prop where
  | nil : DHs X fx [] []
  | cons {y : Str} {m : Str → Option Bool} {g : Env → SOut} {b₀ : Stmt} {suite : List Stmt} {np pos' : Pos} {hds : List ExceptHandler} {l : List ((Str → Option Bool) × (Env → SOut))} (hg : Gl X y) (hd : (y == ("__debug__" : Str)) = false) (E : ExcD X.K X.mg y)
      (hm : ∀ x b, m x = some b → SubD X.K X.mg x y b) (hsu : ∀ (a : Addr) (oe : Obj) (pn : List (Addr × Obj)), DSs (X.suite a ((a, oe) :: pn)) W0 fx (b₀ :: suite) g) (r : DHs X fx hds l) :
      DHs X fx (.ExceptHandler (some (.Name y np)) none (b₀ :: suite) pos' :: hds) ((m, g) :: l)
theorem WS.calm {T : Addr → Prop} {A : Nat → List Addr} {σ : L2.St} {H : Hp} {o : SOut} {N : Ends} (h : WS X W fx T A σ H (noErr o) N) : WS X W0 fx T A σ H o N := by
  cases o with
  | err x e => exact h.elim
  | _ => exact h
theorem DHs.run {hds : List ExceptHandler} {l : List ((Str → Option Bool) × (Env → SOut))} (h : DHs X fx hds l) : ∃ L : List (Value × (Addr → Value → Option Addr → TS)), HdsOk X hds L ∧
    ∀ (x : Exn) (C : Addr) (N : Ends) (T : Addr → Prop) (env : Env) (A : Nat → List Addr) (σ : L2.St) (H : Hp), X.mg x.cls = some (.ref C) → x.ns = [] → EnvOk X.K X.mg T env σ H A → WS X W fx T A σ H (dHandle x env l) N → wMany X.K W N L (.ref C) none σ H := by
  induction h with
  | nil => exact ⟨[], .nil, fun x C N T env A σ H hx hn I w => w σ H A .refl I .refl C hx hn⟩
  | @cons y m g b₀ suite np pos' hds l hg hd E hm hsu r ih =>
    obtain ⟨L, h1, h2⟩ := ih
    obtain ⟨D, gD, _, _, s1, s2, s3⟩ := E.ex
    refine ⟨(.ref D, fun _ _ _ => canon X W0 fx g) :: L, .cons ⟨hg, hd, .inl gD⟩ (fun a oe cls d pn _ _ => canon_of (hsu a oe pn)) h1, fun x C N T env A σ H hx hn I w => ?_⟩
    unfold dHandle at w
    cases em : m x.cls with
    | none => rw [em] at w; exact w.elim
    | some b =>
      rw [em] at w
      refine ⟨b, PySem.W.exm_ref s1 s3 s2 (hm _ _ em C D hx gD), fun e a na => ?_, fun e => ?_⟩
      · subst e
        exact ⟨T, env, A, I, WS.calm w⟩
      · subst e
        exact h2 x C N T env A σ H hx hn I w
theorem ds_try {body : List Stmt} {h₀ : ExceptHandler} {hds : List ExceptHandler} {l : List ((Str → Option Bool) × (Env → SOut))} {pos : Pos} {g : Env → SOut} (hs : X.stack = X.env :: X.outer) (hf : X.env.frame = some X.env.locals) (tk : Takes X W)
    (hb : ∀ (W' : WX) (pn : List (Addr × Obj)) (xe : Value → Shared → Prop), Takes (X.tr pn xe) W' → PassesOwn (model X.prog X.w) X.A X.env xe → DSs (X.tr pn xe) W' fx body g) (hh : DHs X fx (h₀ :: hds) l) : DS X W fx (.Try body (h₀ :: hds) [] [] pos) (dTry g l) := by
  obtain ⟨L, h1, h2⟩ := DHs.run (W := W) hh
  refine ⟨_, ps_try_many (tb := fun W' => canon X W' fx g) hs hf tk (fun W' pn xe t1 t2 => canon_of (hb W' pn xe t1 t2)) h1, fun T env σ H A N I h => ⟨T, env, A, I, ?_⟩⟩
  unfold dTry at h
  cases e : g env with
  | err x env' =>
    rw [e] at h
    exact fun σ' H' A' mo I' fi C hC hn => h2 x C N T env' A' σ' H' hC hn I' (h.re mo fi)
  | nx env' => rw [e] at h; exact h
  | bk env' => rw [e] at h; exact h
  | ct env' => rw [e] at h; exact h
  | rt d env' => rw [e] at h; exact h
  | bad => rw [e] at h; exact h.elim
/-- x = e in a suite -/
theorem ds_setN (i : Nat) {x : Str} {pos pos' : Pos} {e : Expr} {f : Env → Out D} (nd : X.N.Nodup) (he : DE X W e f) (hi : X.N[i]? = some x := by rfl) (hx : Loc X.env.scope x := by first | exact Or.inl rfl | exact Or.inr rfl) (hfx : fx i = false := by rfl) (hs : swapsWith e (some (.Name x pos')) pos.line X.env = pure false := by rfl)
    (hf : X.fn x = true ∨ X.env.scope.names.lookup x = some .local := by first | exact .inl rfl | exact .inr rfl) : DS X W fx (.Assign [.Name x pos'] e pos) (dSet i f) := let ⟨_, a, b⟩ := he; ⟨_, ps_set nd hi hx a hs hf, ss_set hfx b⟩
end
end Dn
/-! Dn39: tables of classes for except clauses; == of ints in a suite; step by step. -/
namespace Dn
open PySem PySem.Spec L2
def mTab (l : List (Str × Bool)) (x : Str) : Option Bool := l.lookup x
theorem mt_nil {K : PySem.W.Frag} {mg : Str → Option Value} {y : Str} : ∀ x b, mTab [] x = some b → SubD K mg x y b := fun x b h => by cases h
theorem mt_cons {K : PySem.W.Frag} {mg : Str → Option Value} {y z : Str} {c : Bool} {l : List (Str × Bool)} (s : SubD K mg z y c) (h : ∀ x b, mTab l x = some b → SubD K mg x y b) : ∀ x b, mTab ((z, c) :: l) x = some b → SubD K mg x y b := fun x b e => by
  unfold mTab at e
  rw [List.lookup_cons] at e
  by_cases q : x == z
  · simp only [q] at e
    cases e
    have := eq_of_beq q
    subst this
    exact s
  · have q' : (x == z) = false := by simpa using q
    simp only [q'] at e
    exact h x b e
theorem c_eqS {X : Cx} {W : WX} {k : Nat} (Z : Sit X W k) {a : Addr} {pn : List (Addr × Obj)} : CmpR (X.suite a pn) .Eq fEq := ⟨_, op_eq.or (op_eqD Z.room.units), pr_eq⟩
section
variable (env e1 : Env) (g : Env → SOut) (x : Exn) (y : Str) (d : D) (m : Str → Option Bool) (hs : List ((Str → Option Bool) × (Env → SOut)))
theorem try_nx (h : g env = .nx e1) : dTry g hs env = .nx e1 := by unfold dTry; rw [h]
theorem try_rt (h : g env = .rt d e1) : dTry g hs env = .rt d e1 := by unfold dTry; rw [h]
theorem try_err (h : g env = .err x e1) : dTry g hs env = dHandle x e1 hs := by unfold dTry; rw [h]
@[simp] theorem z_raise : dRaise y env = .err { cls := y } env := (Eq.refl _).trans (Eq.refl _)
theorem z_hyes (r : List ((Str → Option Bool) × (Env → SOut))) (h : m x.cls = some true) : dHandle x env ((m, g) :: r) = noErr (g env) := by
  show (match m x.cls with
    | some true => noErr (g env)
    | some false => dHandle x env r
    | none => .bad) = _
  rw [h]
theorem z_hno (r : List ((Str → Option Bool) × (Env → SOut))) (h : m x.cls = some false) : dHandle x env ((m, g) :: r) = dHandle x env r := by
  show (match m x.cls with
    | some true => noErr (g env)
    | some false => dHandle x env r
    | none => .bad) = _
  rw [h]
theorem fnD_err {m n : Nat} {fx : Nat → Bool} {g : Env → SOut} {ds : List D} {env0 : Env} {x : Exn} {env outs : Env} (h : g env0 = .err x env) (e0 : ds.map some ++ List.replicate (m - n) none = env0) (ho : outsOf n fx env = outs) : fnD m n fx g ds = .err x outs := by
  unfold fnD
  rw [e0, h]
  show Out.err x (outsOf n fx env) = _
  rw [ho]
end
end Dn
/-! Dn40: a text in a tuple of any things. -/
namespace Dn
open PySem PySem.Spec L2
section
open PySem.SeqAt
variable {A : Around} {s : Shared}
theorem dict_eq_declines_str (l : Addr) (es : Array DictEntry) (n : Nat) (dd : Option Addr) (sl : Array (Option Value)) (b : Str) (u : Tok) :
    Meets (Builtin.«dict.__eq__» ⟨[.ref l, .str b u], []⟩) (fun _ R s => s.heap.get? l = some { cls := .type "dict", dict := dd, data := .dict es n, slots := sl } ∧ R (.ok (.ret .notImplemented)) s) :=
  .of_wp fun prog w A R s h => by obtain ⟨hp, g, d, tk, os⟩ := s; obtain ⟨hl, h⟩ := h; have f1 := F.sub_str_dict; wp_walk using wpAny_loadPart' hl; exact ⟨_, rfl, h⟩
theorem str_eq_declines_dict (b : Str) (u : Tok) (l : Addr) (c : Value) (es : Array DictEntry) (n : Nat) (dd : Option Addr) (sl : Array (Option Value)) :
    Meets (Builtin.«str.__eq__» ⟨[.str b u, .ref l], []⟩) (fun _ R s => s.heap.get? l = some { cls := c, dict := dd, data := .dict es n, slots := sl } ∧ R (.ok (.ret .notImplemented)) s) :=
  .of_wp fun prog w A R s h => by obtain ⟨hp, g, d, tk, os⟩ := s; obtain ⟨hl, h⟩ := h; wp_walk using wpAny_loadPart' hl, wpAny_load hl; exact ⟨_, rfl, h⟩
theorem rc_dict_str {l : Addr} {es : Array DictEntry} {n : Nat} {dd : Option Addr} {sl : Array (Option Value)} (b : Str) (u : Tok) (ho : s.heap.get? l = some { cls := .type "dict", dict := dd, data := .dict es n, slots := sl }) (hu : A.units < cLine) : RcAt A s (.ref l) (.str b u) false := fun prog w E Q h =>
  rc_eq_decline_or (k := false) ⟨_, ho, rfl⟩ (typeIs_str s b u) (by decide) F.sub_str_dict F.slot_dict_eq F.slot_str_eq_refl
    (fun _ hq => call_meets F.slot_dict_eq ⟨_, ho, rfl⟩ F.entry_dict_eq (F.args_dict_eq_2 _ _) (dict_eq_declines_str l es n dd sl b u) ⟨ho, hq⟩)
    (fun _ hq => call_meets F.slot_str_eq_refl (typeIs_str s b u) F.entry_str_eq (F.args_str_eq_2 _ _) (str_eq_declines_dict b u l (.type "dict") es n dd sl) ⟨ho, hq⟩)
    (fun _ hq => wpAny_of_eq (rfl : isSame (.ref l) (.str b u) = pure false) hq) (.inr hu) h
theorem eq_dict_str {l : Addr} {o : Obj} {es : Array DictEntry} {n : Nat} (b : Str) (u : Tok) (ho : s.heap.get? l = some o) (hc : o.cls = .type "dict") (hd : o.data = .dict es n) (hu : A.units < cLine) : EqAt A s (.ref l) (.str b u) false := fun prog w E Q h => by
  obtain ⟨c, dd, da, sl⟩ := o
  dsimp only at hc hd
  subst hc hd
  unfold eqBool
  refine wpAny_holding ?_
  refine wpAny_ite_split (fun hab => absurd (eq_of_beq hab) nofun) (fun _ => ?_)
  exact wpAny_bind (rc_dict_str b u ho hu prog w E _ (wpAny_truthy_bool h))
end
/-- whether a thing is the text z -/
inductive SEq (K : PySem.W.Frag) (H : Hp) (z : Str) : V → Bool → Prop where
  | non : SEq K H z .non false
  | bl (b : Bool) : SEq K H z (.bl b) false
  | int (i : Int) : SEq K H z (.int i) false
  | str (x : Str) : SEq K H z (.str x) (x == z)
  | lst {a : Addr} {xs : List V} (h : SqL K H a xs) : SEq K H z (.ref a) false
  | tup {a : Addr} {xs : List V} (h : SqT K H a xs) : SEq K H z (.ref a) false
  | dic {a : Addr} {kvs : List (Key × V)} (h : H a = some (.dK kvs)) : SEq K H z (.ref a) false
inductive SEqs (K : PySem.W.Frag) (H : Hp) (z : Str) : List V → List Bool → Prop where
  | nil : SEqs K H z [] []
  | cons {v : V} {vs : List V} {b : Bool} {bs : List Bool} (a : SEq K H z v b) (r : SEqs K H z vs bs) : SEqs K H z (v :: vs) (b :: bs)
def valZ (z : Str) : Value → Bool
  | .str x _ => x == z
  | _ => false
def rInT (K : PySem.W.Frag) : R2 := fun x y H Q => ∃ (z : Str) (a : Addr) (vs : List V) (bs : List Bool), x = .str z ∧ y = .ref a ∧ SqT K H a vs ∧ SEqs K H z vs bs ∧ Q (.bl (bs.any id)) H
section
open PySem.SeqAt
variable {X : Cx} {pins : List (Addr × Obj)} {σ : St} {H : Hp} {s : Shared}
theorem SEq.at {z : Str} {t : Tok} {v : V} {b : Bool} {u : Value} (I : Inv X pins σ H s) (h : SEq X.K H z v b) (r : RelV v u) (hu : X.A.units + 1 < cLine) : EqAt X.A.in1 s u (.str z t) b ∧ valZ z u = b := by
  have hu1 : X.A.in1.units < cLine := hu
  cases h with
  | non => cases r; exact ⟨EqAt.none_str _ _, rfl⟩
  | bl c => cases r; exact ⟨EqAt.bool_str _ _ _, rfl⟩
  | int i => obtain ⟨t', rfl⟩ := r; exact ⟨EqAt.int_str _ _ _ _, rfl⟩
  | str x => obtain ⟨t', rfl⟩ := r; exact ⟨EqAt.str_str _ _ _ _, rfl⟩
  | lst h =>
    cases r
    obtain ⟨its, _, ⟨o, n, ho, hc, hd, hdt⟩, _⟩ := I.list h
    exact ⟨EqAt.list_str _ _ ⟨_, ho, hc, n, hdt⟩ hu1, rfl⟩
  | tup h =>
    cases r
    obtain ⟨its, _, ⟨o, ho, hc, n, hdt⟩, _⟩ := I.tuple h
    exact ⟨EqAt.tuple_str _ _ ⟨_, ho, hc, n, hdt⟩ hu1, rfl⟩
  | dic h =>
    cases r
    obtain ⟨y, hs, vs, rel, o, es, ep, h1, h2, h3, h4, h5, h6⟩ := dk_of I.hok h
    exact ⟨eq_dict_str _ _ h1 h2.1 h3 hu1, rfl⟩
theorem SEqs.all {z : Str} {t : Tok} : ∀ {vs : List V} {bs : List Bool} {us : List Value}, Inv X pins σ H s → SEqs X.K H z vs bs → Vals vs us → X.A.units + 1 < cLine → (∀ u ∈ us, EqAt X.A.in1 s u (.str z t) (valZ z u)) ∧ us.any (valZ z) = bs.any id
  | _, _, _, I, .nil, .nil, hu => ⟨(fun u h => by cases h), rfl⟩
  | _, _, _, I, .cons a r, .cons ra rr, hu => by
    obtain ⟨h1, h2⟩ := SEq.at (t := t) I a ra hu
    obtain ⟨h3, h4⟩ := SEqs.all (t := t) I r rr hu
    refine ⟨fun u hm => ?_, ?_⟩
    · rcases List.mem_cons.mp hm with rfl | hm
      · rw [h2]; exact h1
      · exact h3 u hm
    · rw [List.any_cons, List.any_cons, h2, h4]; rfl
theorem op_inT (hu : X.A.units + 1 < cLine) : OpR X (compareOp .In) (rInT X.K) := by
  intro pins s σ H x y v u Q I rx ry h
  obtain ⟨z, a, vs, bs, rfl, rfl, sq, se, q⟩ := h
  obtain ⟨t, rfl⟩ := rx
  cases ry
  obtain ⟨its, rv, ⟨o, ho, hc, n, hd⟩, _⟩ := I.tuple sq
  obtain ⟨h1, h2⟩ := SEqs.all (t := t) I se rv hu
  refine in_tupleAt (valZ z) ⟨_, ho, hc, n, hd⟩ (fun y hy => h1 y (by simpa using hy)) ?_
  refine ⟨.bl _, H, I, ?_, q⟩
  rw [← h2]
  show _ = _
  simp
end
/-- a text in a tuple -/
def isTx (z : Str) : D → Bool
  | .str x => x == z
  | _ => false
def okT : D → Bool
  | .scr _ => false
  | .bor _ => false
  | .exc _ _ _ => false
  | _ => true
def fInX (env : Env) : List D → Option D
  | [d, c] => match d, rd env c with
    | .str z, some (.tup ds) => if ds.all okT = true then some (D.bl (ds.any (isTx z))) else none
    | _, _ => fIn env [d, c]
  | _ => none
section
variable {K : PySem.W.Frag} {mg : Str → Option Value} {S : Addr → Prop} {σ : St} {H : Hp}
theorem OwL.seqs {z : Str} : ∀ {B : List Addr} {vs : List V} {ds : List D}, OwL K mg S σ H B vs ds → ds.all okT = true → SEqs K H z vs (ds.map (isTx z))
  | _, _, _, .nil, _ => .nil
  | _, _, _, .cons o l _, h => by
    rw [List.all_cons, Bool.and_eq_true] at h
    refine .cons ?_ (OwL.seqs l h.2)
    cases o with
    | non => exact .non
    | bl b => exact .bl b
    | int i => exact .int i
    | str x => exact .str x
    | tup i _ => exact .tup i.sq
    | lst i _ => exact .lst i.sq
    | scr _ _ => cases h.1
    | own i _ _ => exact .lst (.inl (.inl i))
    | dic i _ => exact .dic i.2.1
    | odic i _ _ _ => exact .dic i
    | bor _ => cases h.1
end
section
variable {X : Cx} {W : WX} {k : Nat}
theorem c_inX (Z : Sit X W k) : CmpR X .In fInX := by
  obtain ⟨r, op, pr⟩ := (c_in Z).ex
  have hu : X.A.units + 1 < cLine := by have := Z.room.un; omega
  refine ⟨_, op.or (op_inT hu), ?_⟩
  rw [rOr]
  intro T env σ H A B vs ds d Q I o hf q
  unfold fInX at hf
  split at hf
  · split at hf
    · rename_i z es e1
      split at hf
      · rename_i ok
        cases hf
        refine .inr ?_
        obtain ⟨v, u, B1, B2, rfl, o1, o2, _, _⟩ := o.inv2
        obtain ⟨B', o'⟩ := I.rd o2 e1
        have hv := o1.strv
        subst hv
        cases o' with
        | tup i l => exact ⟨z, _, _, _, rfl, rfl, i.sq, l.seqs ok, by
            rw [List.any_map]
            exact q _ _ [] (fun _ _ e => e) (by simp) (.bl _)⟩
      · cases hf
    · exact .inl (pr T env σ H A B vs _ d Q I o hf q)
  · cases hf
end
section
variable (env : Env) (z : Str) (c : D) (ds : List D)
theorem inX_tup (h : rd env c = some (.tup ds)) (ok : ds.all okT = true) : fInX env [.str z, c] = some (.bl (ds.any (isTx z))) := by
  show (match D.str z, rd env c with
    | .str z, some (.tup ds) => if ds.all okT = true then some (D.bl (ds.any (isTx z))) else none
    | _, _ => fIn env [.str z, c]) = _
  rw [h]
  simp only
  rw [if_pos ok]
theorem inX_else (h : ∀ ds, rd env c ≠ some (.tup ds)) : fInX env [.str z, c] = fIn env [.str z, c] := by
  show (match D.str z, rd env c with
    | .str z, some (.tup ds) => if ds.all okT = true then some (D.bl (ds.any (isTx z))) else none
    | _, _ => fIn env [.str z, c]) = _
  split
  · rename_i e; exact absurd e (h _)
  · rfl
end
end Dn
/-! Dn41: sorted of a list of data. -/
namespace Dn
open PySem PySem.Spec L2
open PySem.W (EachIs dataLe AllAlike Sortable alike)
def leD : V × D → V × D → Bool := dataLe false fun b => py b.2
def leP : D → D → Bool := dataLe false py
def srtD (ds : List D) : List D := ds.mergeSort leP
def rSortD (K : PySem.W.Frag) : List V → Hp → VK → Prop := fun vs H Q => ∃ (a : Addr) (bs : List (V × D)), vs = [.ref a] ∧ SqL K H a (bs.map (·.1)) ∧ (∀ b ∈ bs, Dp K H b.1 (py b.2)) ∧ AllAlike (bs.map fun b => py b.2) ∧ Sortable (bs.map fun b => py b.2) ∧ (∀ b ∈ bs, (py b.2).depth ≤ 50) ∧
  ∀ p, H p = none → Q (.ref p) (upd H p (.lst ((bs.mergeSort leD).map (·.1))))
theorem each_of_vals : ∀ {bs : List (V × D)} {its : List Value}, Vals (bs.map (·.1)) its → EachIs (fun v (b : V × D) => RelV b.1 v) its bs
  | [], _, h => by cases h; exact .nil
  | b :: bs, _, h => by
    cases h with
    | cons h1 h2 => exact .cons h1 (each_of_vals h2)
theorem vals_of_each : ∀ {its : List Value} {bs : List (V × D)}, EachIs (fun v (b : V × D) => RelV b.1 v) its bs → Vals (bs.map (·.1)) its
  | _, _, .nil => .nil
  | _, _, .cons h t => .cons h (vals_of_each t)
theorem each_and {α β : Type} {R S : α → β → Prop} : ∀ {as : List α} {bs : List β}, EachIs R as bs → (∀ b ∈ bs, ∀ a, R a b → S a b) → EachIs S as bs
  | _, _, .nil, _ => .nil
  | _, _, .cons h t, k => .cons (k _ List.mem_cons_self _ h) (each_and t fun b hb => k b (List.mem_cons_of_mem _ hb))
section
variable {X : Cx} {W : WX} {k : Nat}
theorem call_sortD (Z : Sit X W k) : CallR X (.builtin "sorted") (rSortD X.K) := by
  intro pins s σ H vs us Q I r h
  obtain ⟨a, bs, rfl, hs, dp, al, so, de, q⟩ := h
  obtain ⟨its, rv, hl, hz⟩ := I.list hs
  rw [Vals.ref1 r]
  have un := Z.room.un
  have ea := each_of_vals rv
  refine PySem.W.sorted_data (R := fun v (b : V × D) => RelV b.1 v) (enc := fun b : V × D => py b.2) (bs := bs) hl.isList ea (each_and ea fun b hb v rv' => Dp.reads I _ _ _ (dp b hb) rv') al so (by rw [List.length_map] at hz; exact hz) (fun b hb => by have := de b hb; show X.A.units + 2 + (py b.2).depth < cLine; omega) fun out ho eo => ?_
  obtain ⟨ep, he'⟩ := PyProof.Rows.sortedAll_at s.heap its out.toArray
  have hlen : ((bs.mergeSort leD).map (·.1)).length ≤ sizeLine := by
    rw [List.length_map, List.length_mergeSort]
    rw [List.length_map] at hz
    exact hz
  exact ⟨.ref _, upd H (s.heap.objs.size + 1) (.lst ((bs.mergeSort leD).map (·.1))), I.laid (t' := s.toks) (fun _ _ => PyProof.Rows.sortedAll_old) (Nat.le_succ _) ⟨hlen, out, ep, vals_of_each eo, he'⟩, rfl, q _ (I.hok.fresh (Nat.le_succ _))⟩
end
def alikeL (ds : List D) : Bool := ds.all fun d => ds.all fun e => alike (py d) (py e)
def tupNE : PyData → Bool
  | .tuple (_ :: _) => true
  | _ => false
def notTN : PyData → Bool
  | .tuple _ => false
  | .none => false
  | _ => true
def sortOk (ds : List D) : Bool := plainL ds && (PyData.canLayAll0 (pyL ds) && (alikeL ds && ((ds.all (fun d => tupNE (py d)) || ds.all (fun d => notTN (py d))) && ds.all (fun d => decide ((py d).depth ≤ 50)))))
def fSorted (env : Env) : List D → Option D
  | [d] => ((rd env d).bind seqL).bind fun ds => if sortOk ds = true then some (.own (srtD ds)) else none
  | _ => none
section
variable {K : PySem.W.Frag} {mg : Str → Option Value} {S : Addr → Prop} {σ : St} {H : Hp}
theorem OwL.pairs : ∀ {B : List Addr} {vs : List V} {ds : List D}, OwL K mg S σ H B vs ds → plainL ds = true → vs.length = ds.length ∧ ∀ b ∈ vs.zip ds, Ow K mg S σ H [] b.1 b.2
  | _, _, _, .nil, _ => ⟨rfl, (fun _ h => nomatch h)⟩
  | _, _, _, .cons a b _, h => by
    simp only [plainL, Bool.and_eq_true] at h
    obtain ⟨h1, h2⟩ := OwL.pairs b h.2
    have e := a.bare h.1
    subst e
    refine ⟨by rw [List.length_cons, List.length_cons, h1], fun q hq => ?_⟩
    rw [List.zip_cons_cons] at hq
    rcases List.mem_cons.mp hq with rfl | z
    · exact a
    · exact h2 q z
theorem OwL.of_pairs : ∀ bs : List (V × D), (∀ b ∈ bs, Ow K mg S σ H [] b.1 b.2) → OwL K mg S σ H [] (bs.map (·.1)) (bs.map (·.2))
  | [], _ => .nil
  | b :: bs, h => .cons (B := []) (h b List.mem_cons_self) (OwL.of_pairs bs fun x hx => h x (List.mem_cons_of_mem _ hx)) (by simp)
end
theorem canLay_mem : ∀ {ds : List D}, PyData.canLayAll0 (pyL ds) = true → ∀ d ∈ ds, (py d).canLay0 = true
  | [], _, _, h => nomatch h
  | x :: xs, h, d, hd => by
    rw [pyL] at h
    simp only [PyData.canLayAll0, Bool.and_eq_true] at h
    rcases List.mem_cons.mp hd with rfl | z
    · exact h.1
    · exact canLay_mem h.2 d z
theorem zip_map1 {α β : Type} : ∀ {as : List α} {bs : List β}, as.length = bs.length → (as.zip bs).map (·.1) = as ∧ (as.zip bs).map (·.2) = bs
  | [], [], _ => ⟨rfl, rfl⟩
  | a :: as, b :: bs, h => by
    obtain ⟨h1, h2⟩ := zip_map1 (as := as) (bs := bs) (by simpa using h)
    rw [List.zip_cons_cons, List.map_cons, List.map_cons, h1, h2]
    exact ⟨rfl, rfl⟩
  | [], _ :: _, h => by simp at h
  | _ :: _, [], h => by simp at h
section
variable {X : Cx} {W : WX} {k : Nat}
theorem b_sorted (Z : Sit X W k) : BiR X (.builtin "sorted") fSorted := ⟨_, call_sortD Z, fun T env σ H A B vs ds d Q I o h q => by
  unfold fSorted at h
  split at h
  · obtain ⟨es, h1, h4⟩ := Option.bind_eq_some_iff.mp h
    obtain ⟨c, h2, h3⟩ := Option.bind_eq_some_iff.mp h1
    split at h4
    · rename_i ok
      cases h4
      unfold sortOk at ok
      simp only [Bool.and_eq_true] at ok
      obtain ⟨hp, hc, ha, hs, hd⟩ := ok
      obtain ⟨v, B1, rfl, o1, _⟩ := o.inv1
      obtain ⟨B2, o2⟩ := I.rd o1 h2
      obtain ⟨a, ws, B3, rfl, sq, ol⟩ := o2.seqL h3
      obtain ⟨hl, hb⟩ := ol.pairs hp
      obtain ⟨z1, z2⟩ := zip_map1 hl
      have hmem : ∀ b ∈ ws.zip es, b.2 ∈ es := fun b hb' => by rw [← z2]; exact List.mem_map.mpr ⟨b, hb', rfl⟩
      have hnb : ∀ b ∈ ws.zip es, noBor b.2 = true := fun b hb' => by
        obtain ⟨i, hi⟩ := List.getElem?_of_mem (hmem b hb')
        exact plain_noBor _ (plainL_get hp hi)
      refine ⟨a, ws.zip es, rfl, by rw [z1]; exact sq, fun b hb' => (hb b hb').dp0 (hnb b hb') (canLay_mem hc _ (hmem b hb')), ?_, ?_, fun b hb' => ?_, fun l nl => ?_⟩
      · intro d1 m1 d2 m2
        obtain ⟨b1, n1, rfl⟩ := List.mem_map.mp m1
        obtain ⟨b2, n2, rfl⟩ := List.mem_map.mp m2
        unfold alikeL at ha
        exact List.all_eq_true.mp (List.all_eq_true.mp ha _ (hmem b1 n1)) _ (hmem b2 n2)
      · rcases Bool.or_eq_true_iff.mp hs with hs | hs
        · refine .inl fun d1 m1 => ?_
          obtain ⟨b1, n1, rfl⟩ := List.mem_map.mp m1
          have := List.all_eq_true.mp hs _ (hmem b1 n1)
          generalize py b1.2 = z at this
          unfold tupNE at this
          split at this
          · exact ⟨_, _, rfl⟩
          · cases this
        · refine .inr fun d1 m1 => ?_
          obtain ⟨b1, n1, rfl⟩ := List.mem_map.mp m1
          have := List.all_eq_true.mp hs _ (hmem b1 n1)
          show (py b1.2) ≠ _ ∧ ∀ xs, py b1.2 ≠ _
          generalize py b1.2 = z at this
          exact ⟨(fun e => by subst e; cases this), (fun xs e => by subst e; cases this)⟩
      · exact of_decide_eq_true (List.all_eq_true.mp hd _ (hmem b hb'))
      · have hq : ∀ b ∈ (ws.zip es).mergeSort leD, Ow X.K X.mg _ σ H [] b.1 b.2 := fun b hb' => hb b (List.mem_mergeSort.mp hb')
        have on := OwL.of_pairs _ hq
        have e2 : ((ws.zip es).mergeSort leD).map (·.2) = srtD es := by
          unfold srtD
          rw [PySem.W.sort_maps (r := leD) (s := leP) (fun b : V × D => b.2) (l := ws.zip es) (fun _ _ _ _ => rfl), z2]
        rw [e2] at on
        refine q _ _ [l] (fun b u e => by rw [upd_ne (ne_of_none e nl)]; exact e) (by simp [nl]) ?_
        have on' := on.weak (S' := SA A (TB T [])) fun p z => z.imp (fun z => z.imp id fun z => by cases z) id
        exact .own upd_same (by simp) (on'.anew nl)
    · cases h4
  · cases h⟩
end
@[simp] theorem z_sorted (env : Env) (d : D) : fSorted env [d] = ((rd env d).bind seqL).bind fun ds => if sortOk ds = true then some (.own (srtD ds)) else none := (Eq.refl _).trans (Eq.refl _)
end Dn
/-! Dn42: list.index, list.remove of texts; dict(pairs). -/
namespace Dn
open PySem PySem.Spec L2
def eqsV (k : Str) (v : Value) : Bool := match v with
  | .str z _ => z == k
  | _ => false
def rRemS : V → List V → Hp → VK → Prop := fun x xs H Q => ∃ (l : Addr) (ns : List Str) (k : Str) (j : Nat), x = .ref l ∧ xs = [.str k] ∧ H l = some (.lst (ns.map V.str)) ∧ ns[j]? = some k ∧ (∀ m : Nat, m < j → ns[m]? ≠ some k) ∧ Q .non (upd H l (.lst ((ns.eraseIdx j).map V.str)))
theorem erase_mapS {α β : Type} (f : α → β) : ∀ (l : List α) (j : Nat), (l.map f).eraseIdx j = (l.eraseIdx j).map f
  | [], j => by simp
  | a :: r, 0 => by simp
  | a :: r, j + 1 => by
    have ih := erase_mapS f r j
    simp [ih]
section
variable {X : Cx} {W : WX}
theorem eqsV_gives {k : Str} {t : Tok} : ∀ {us : List Value} {ns : List Str}, Vals (ns.map V.str) us → ∀ y ∈ us, MeetsSeq.EqGives y (.str k t) (eqsV k y)
  | _, [], h, y, hy => by cases h; cases hy
  | _, n :: ns, h, y, hy => by
    cases h with
    | cons r h =>
      obtain ⟨t', rfl⟩ := r
      rcases List.mem_cons.mp hy with e | e
      · rw [e]
        exact fun _ _ _ _ _ _ q => wpAny_eqBool_str q
      · exact eqsV_gives h y e
theorem mt_removeS : MtR X "list.remove" rRemS := by
  intro pins s σ H x xs v us Q I rx rxs h
  obtain ⟨l, ns, k, j, rfl, rfl, hH, hj, hno, q⟩ := h
  cases rx
  obtain ⟨u, rfl, ru⟩ := rxs.one
  obtain ⟨t, rfl⟩ := ru
  obtain ⟨z, its, n, r, hl, e⟩ := I.lstM hH
  have g : ∀ (m : Nat) (y : Str), ns[m]? = some y → ∃ tm, its[m]? = some (Value.str y tm) := fun m y hy => by
    obtain ⟨w, hw, rw'⟩ := r.get (i := m) (x := .str y) (by rw [List.getElem?_map, hy]; rfl)
    obtain ⟨tm, rfl⟩ := rw'
    exact ⟨tm, hw⟩
  rw [List.length_map] at hl z
  have hjn : j < ns.length := (List.getElem?_eq_some_iff.mp hj).1
  have hjl : j < its.toArray.size := by rw [List.size_toArray]; omega
  refine call_meets PySem.F.slot_list_remove ⟨_, e, rfl⟩ PySem.F.entry_list_remove (PySem.F.args_list_remove_2 _ _)
    (MeetsSeq.list_remove l its.toArray n (.str k t) (eqsV k) (fun y hy => eqsV_gives r y (by simpa using hy)) j hjl ?_ ?_ (by rw [List.size_toArray]; omega)) ⟨e, ?_⟩
  · obtain ⟨tj, hjt⟩ := g j k hj
    obtain ⟨h1, h2⟩ := List.getElem?_eq_some_iff.mp hjt
    have e1 : its.toArray[j] = .str k tj := by simpa using h2
    rw [e1]
    exact beq_self_eq_true k
  · intro m hm hmj
    have hmn : m < ns.length := by omega
    obtain ⟨tm, hmt⟩ := g m _ (List.getElem?_eq_getElem hmn)
    obtain ⟨h1, h2⟩ := List.getElem?_eq_some_iff.mp hmt
    have e1 : its.toArray[m] = .str ns[m] tm := by simpa using h2
    rw [e1]
    refine beq_eq_false_iff_ne.mpr fun e2 => hno m hmj ?_
    rw [List.getElem?_eq_getElem hmn, e2]
  · have rr := r.eraseIdx j
    rw [erase_mapS] at rr
    refine ⟨.non, _, I.lset (its' := its.eraseIdx j) (t' := s.toks) hH e ?_ rr ?_, rfl, q⟩
    · show its.toArray.eraseIdxIfInBounds j = (its.eraseIdx j).toArray
      rw [List.eraseIdxIfInBounds_toArray]
    · have z2 : (ns.eraseIdx j).length ≤ ns.length := List.length_eraseIdx_le ..
      rw [List.length_map]
      omega
end
/-- the place of the first text -/
def findS (k : Str) : List D → Option Nat
  | [] => none
  | .str y :: ds => if y = k then some 0 else (findS k ds).map (· + 1)
  | _ :: _ => none
theorem findS_at {k : Str} : ∀ {ds : List D} {j : Nat}, findS k ds = some j → ds[j]? = some (.str k) ∧ ∀ m, m < j → ∃ y, ds[m]? = some (.str y) ∧ y ≠ k
  | [], _, h => by cases h
  | .str y :: ds, j, h => by
    unfold findS at h
    split at h
    · rename_i e
      cases h
      subst e
      exact ⟨rfl, fun m hm => absurd hm (Nat.not_lt_zero _)⟩
    · rename_i e
      obtain ⟨i, h1, rfl⟩ := Option.map_eq_some_iff.mp h
      obtain ⟨h2, h3⟩ := findS_at h1
      refine ⟨h2, fun m hm => ?_⟩
      cases m with
      | zero => exact ⟨y, rfl, e⟩
      | succ m => exact h3 m (by omega)
  | .non :: _, _, h => by cases h
  | .bl _ :: _, _, h => by cases h
  | .int _ :: _, _, h => by cases h
  | .tup _ :: _, _, h => by cases h
  | .lst _ :: _, _, h => by cases h
  | .own _ :: _, _, h => by cases h
  | .dic _ _ :: _, _, h => by cases h
  | .odic _ _ :: _, _, h => by cases h
  | .scr _ :: _, _, h => by cases h
  | .bor _ :: _, _, h => by cases h
  | .exc _ _ _ :: _, _, h => by cases h
def allS (ds : List D) : Option (List Str) := ds.mapM fun d => match d with
  | .str x => some x
  | _ => none
def mRemove (xs : List D) : List D → Option (D × List D)
  | [.str k] => (allS xs).bind fun _ => (findS k xs).map fun j => (.non, xs.eraseIdx j)
  | _ => none
section
variable {K : PySem.W.Frag} {mg : Str → Option Value} {S : Addr → Prop} {σ : St} {H : Hp}
theorem allS_map : ∀ {ds : List D} {ns : List Str}, allS ds = some ns → ds = ns.map D.str
  | [], ns, h => by
    cases h
    rfl
  | d :: ds, ns, h => by
    unfold allS at h
    rw [List.mapM_cons] at h
    obtain ⟨x, h1, h2⟩ := Option.bind_eq_some_iff.mp h
    obtain ⟨xs, h3, h4⟩ := Option.bind_eq_some_iff.mp h2
    cases h4
    cases d with
    | str y =>
      cases h1
      rw [List.map_cons, ← allS_map (ds := ds) h3]
    | _ => cases h1
theorem allS_of (ns : List Str) : allS (ns.map D.str) = some ns := by
  induction ns with
  | nil => rfl
  | cons x ns ih =>
    unfold allS at ih ⊢
    rw [List.map_cons, List.mapM_cons, ih]
    rfl
theorem plainS : ∀ ns : List Str, plainL (ns.map D.str) = true
  | [] => rfl
  | x :: ns => plainS ns
theorem OwL.strsM : ∀ {B : List Addr} {vs : List V} {ns : List Str}, OwL K mg S σ H B vs (ns.map D.str) → vs = ns.map V.str
  | _, _, [], h => by cases h; rfl
  | _, _, n :: ns, h => by
    cases h with
    | cons a b _ =>
      rw [List.map_cons, a.strv, b.strsM]
theorem OwL.strs_of : ∀ ns : List Str, OwL K mg S σ H [] (ns.map V.str) (ns.map D.str)
  | [] => .nil
  | n :: ns => .cons (B := []) (.str n) (OwL.strs_of ns) (by simp)
end
section
variable {X : Cx} {W : WX}
theorem m_remove : MutR X rRemS mRemove := fun S σ H l C B xs xds vs ads rd yds Q e ox oa n h q => by
  unfold mRemove at h
  split at h
  · obtain ⟨ns, h1, h2⟩ := Option.bind_eq_some_iff.mp h
    obtain ⟨j, h3, h4⟩ := Option.map_eq_some_iff.mp h2
    cases h4
    have e1 := allS_map h1
    subst e1
    have e2 := ox.strsM
    subst e2
    obtain ⟨w, B1, rfl, ow, _⟩ := oa.inv1
    have := ow.strv
    subst this
    obtain ⟨g1, g2⟩ := findS_at h3
    refine ⟨l, ns, _, j, rfl, rfl, e, ?_, fun m hm z => ?_, ?_⟩
    · rw [List.getElem?_map] at g1
      obtain ⟨y, h5, h6⟩ := Option.map_eq_some_iff.mp g1
      cases h6
      exact h5
    · obtain ⟨y, h5, h6⟩ := g2 m hm
      rw [List.getElem?_map, z] at h5
      cases h5
      exact h6 rfl
    · have o := OwL.strs_of (K := X.K) (mg := X.mg) (S := S) (σ := σ) (H := H) (ns.eraseIdx j)
      rw [show (ns.eraseIdx j).map D.str = (ns.map D.str).eraseIdx j from (erase_mapS _ _ _).symm] at o
      exact q _ _ [] [] o .non (by simp) fun p z => z.elim (fun z => by cases z) fun z => by cases z
  · cases h
theorem de_remove (i : Nat) {x : Str} {p apos cpos : Pos} {e : Expr} {fs : Env → Out (List D)} (ha : DA X W [e] fs) (hN : X.N[i]? = some x := by rfl) (hv : Vis X.env.scope x := by first | exact Or.inl rfl | exact Or.inr (Or.inl rfl) | exact Or.inr (Or.inr rfl))
    (hb : attributeBase (.Name x p) "remove" X.env (eval (.Name x p) X.env) = eval (.Name x p) X.env := by rfl)
    (hfew : ((backTo cpos (starEach [e] X.env)).all (fun x => !x.1) && (backToKw cpos (keywordEach [] X.env)).all (fun x => x.1.isSome) && decide ([e].length + ([] : List Keyword).length + (if ([] : List Keyword).isEmpty then 0 else 1) < 30)) = true := by rfl)
    (hl : (apos.endLine == cpos.line) = true := by rfl) (hs : starEach [e] X.env = (false, eval e X.env) :: starEach [] X.env := by rfl) (hp : (backTo cpos (starEach [] X.env)).any (·.1) = false := by rfl) (hd : (x == ("__debug__" : Str)) = false := by decide) (hcd : (x == ("__classdict__" : Str)) = false := by decide) :
    DE X W (.Call (.Attribute (.Name x p) "remove" apos) [e] [] cpos) (dMut i mRemove fs) := let ⟨_, a, b⟩ := ha; ⟨_, pe_bm PySem.F.plainAttrs_list PySem.F.slot_list_remove PySem.F.type_list_remove mt_removeS (pe_var hN hv hd hcd) a hb hfew hl hs hp, se_mut b m_remove⟩
end
@[simp] theorem z_remove (xs : List D) (k : Str) : mRemove xs [.str k] = (allS xs).bind fun _ => (findS k xs).map fun j => (.non, xs.eraseIdx j) := (Eq.refl _).trans (Eq.refl _)
end Dn
/-! Dn43: xs.index(text). -/
namespace Dn
open PySem PySem.Spec L2
def lstAt (env : Env) (i : Nat) : Option (List D) := match env[i]? with
  | some (some (.own xs)) => some xs
  | some (some (.lst xs)) => some xs
  | _ => none
def dIndex (i : Nat) (fs : Env → Out (List D)) : Env → Out D := fun env => if (lstAt env i).isSome = true then (fs env).bind fun ds env1 => match ds, lstAt env1 i with
    | [.str k], some xs => (match (allS xs).bind fun _ => findS k xs with
      | some j => .ok (.int (j : Nat)) env1
      | none => .bad)
    | _, _ => .bad
  else .bad
section
variable {X : Cx} {W : WX}
theorem EnvOk.lstAt {K : PySem.W.Frag} {mg : Str → Option Value} {T : Addr → Prop} {env : Env} {σ : St} {H : Hp} {A : Nat → List Addr} {i : Nat} {ds : List D} (I : EnvOk K mg T env σ H A) (h : lstAt env i = some ds) :
    ∃ a vs B, σ[i]? = some (some (.ref a)) ∧ SqL K H a vs ∧ OwL K mg (SA A T) σ H B vs ds := by
  unfold Dn.lstAt at h
  split at h
  · rename_i e
    cases h
    obtain ⟨_, v, s, o⟩ := I.slot i _ e
    generalize A i = G at o
    cases o with
    | own e n l => exact ⟨_, _, _, s, .inl (.inl e), l⟩
  · rename_i e
    cases h
    obtain ⟨_, v, s, o⟩ := I.slot i _ e
    generalize A i = G at o
    cases o with
    | lst e l => exact ⟨_, _, _, s, e.sq, l⟩
  · cases h
theorem se_index {i : Nat} {ta : TA} {fs : Env → Out (List D)} (hs : SL X W ta fs) : SE X W (tBM X.K "list" (rIndex X.K) (tVar i) ta) (dIndex i fs) := fun T env σ H A Q I h => by
  unfold dIndex at h
  split at h
  · rename_i h0
    obtain ⟨xs0, h0⟩ := Option.isSome_iff_exists.mp h0
    obtain ⟨a0, vs0, B0, s0, q0, _⟩ := I.lstAt h0
    refine ⟨_, s0, .inl ⟨rfl, vs0, q0⟩, hs T env σ H A _ I ?_⟩
    cases ef : fs env with
    | bad => rw [ef] at h; exact h
    | err x env' => rw [ef] at h; exact h
    | ok ds env1 =>
      rw [ef, Out.bind_ok] at h
      intro vs H1 A1 B1 m1 I1 o1
      split at h
      · rename_i k xs e1
        split at h
        · rename_i j e2
          obtain ⟨ns, e3, e4⟩ := Option.bind_eq_some_iff.mp e2
          have e5 := allS_map e3
          subst e5
          obtain ⟨a, us, B, s', q', ol⟩ := I1.lstAt e1
          rw [s0] at s'
          cases s'
          have e6 := ol.strsM
          subst e6
          obtain ⟨w, B2, rfl, ow, _⟩ := o1.inv1
          have := ow.strv
          subst this
          obtain ⟨g1, g2⟩ := findS_at e4
          rw [List.getElem?_map] at g1
          obtain ⟨y, g3, g4⟩ := Option.map_eq_some_iff.mp g1
          cases g4
          refine ⟨a0, ns.map V.str, .str k, j, .str k, rfl, rfl, q', rfl, ?_, by rw [List.getElem?_map, g3]; rfl, ?_, fun m z' hm hz => ?_, ?_⟩
          · rw [List.all_eq_true]
            intro v hv
            obtain ⟨n, _, rfl⟩ := List.mem_map.mp hv
            rfl
          · simp [eqV]
          · obtain ⟨y, h5, h6⟩ := g2 m hm
            rw [List.getElem?_map] at h5 hz
            obtain ⟨n, h7, h8⟩ := Option.map_eq_some_iff.mp h5
            cases h8
            rw [h7] at hz
            cases hz
            simp [eqV, h6]
          · exact h (.int (j : Nat)) H1 A1 [] (m1.fewer fun p z => by cases z) (I1.drop.weak tbn) (.int _)
        · exact h.elim
      · exact h.elim
  · exact h.elim
theorem de_index (i : Nat) {x : Str} {p apos cpos : Pos} {e : Expr} {fs : Env → Out (List D)} (ha : DA X W [e] fs) (hN : X.N[i]? = some x := by rfl) (hv : Vis X.env.scope x := by first | exact Or.inl rfl | exact Or.inr (Or.inl rfl) | exact Or.inr (Or.inr rfl))
    (hb : attributeBase (.Name x p) "index" X.env (eval (.Name x p) X.env) = eval (.Name x p) X.env := by rfl)
    (hfew : ((backTo cpos (starEach [e] X.env)).all (fun x => !x.1) && (backToKw cpos (keywordEach [] X.env)).all (fun x => x.1.isSome) && decide ([e].length + ([] : List Keyword).length + (if ([] : List Keyword).isEmpty then 0 else 1) < 30)) = true := by rfl)
    (hl : (apos.endLine == cpos.line) = true := by rfl) (hs : starEach [e] X.env = (false, eval e X.env) :: starEach [] X.env := by rfl) (hp : (backTo cpos (starEach [] X.env)).any (·.1) = false := by rfl) (hd : (x == ("__debug__" : Str)) = false := by decide) (hcd : (x == ("__classdict__" : Str)) = false := by decide) :
    DE X W (.Call (.Attribute (.Name x p) "index" apos) [e] [] cpos) (dIndex i fs) := let ⟨_, a, b⟩ := ha; ⟨_, pe_bm PySem.F.plainAttrs_list PySem.F.slot_list_index PySem.F.type_list_index mt_index (pe_var hN hv hd hcd) a hb hfew hl hs hp, se_index b⟩
end
theorem dIndex_ok {i j : Nat} {fs : Env → Out (List D)} {env env1 : Env} {xs ys : List D} {k : Str} (h0 : lstAt env i = some xs) (h1 : fs env = .ok [.str k] env1) (h2 : lstAt env1 i = some ys) (h3 : (allS ys).bind (fun _ => findS k ys) = some j) : dIndex i fs env = .ok (.int (j : Nat)) env1 := by
  unfold dIndex
  rw [h0, h1, Out.bind_ok, h2]
  simp only [Option.isSome_some, if_true, h3]
end Dn
/-! Dn44: dict(pairs). -/
namespace Dn
open PySem PySem.Spec L2
def pairsD : List D → Option (List Key × List D)
  | [] => some ([], [])
  | .tup [k, v] :: ds => (keyD k).bind fun q => (pairsD ds).map fun z => (q :: z.1, v :: z.2)
  | _ :: _ => none
def fDictOf (env : Env) : List D → Option D
  | [d] => ((rd env d).bind seqL).bind fun ds => if plainL ds = true then (pairsD ds).bind fun z => if z.1.Nodup then some (.odic z.1 z.2) else none else none
  | _ => none
section
variable {K : PySem.W.Frag} {mg : Str → Option Value} {S : Addr → Prop} {σ : St} {H : Hp}
theorem pairs_inv {d : D} {ds : List D} {z : List Key × List D} (h : pairsD (d :: ds) = some z) : ∃ k v q z', d = .tup [k, v] ∧ keyD k = some q ∧ pairsD ds = some z' ∧ z = (q :: z'.1, v :: z'.2) := by
  unfold pairsD at h
  split at h
  · rename_i e; cases e
  · rename_i k v ds' e
    cases e
    obtain ⟨q, h1, h2⟩ := Option.bind_eq_some_iff.mp h
    obtain ⟨z', h3, h4⟩ := Option.map_eq_some_iff.mp h2
    exact ⟨k, v, q, z', rfl, h1, h3, h4.symm⟩
  · cases h
theorem pairs_ok : ∀ {B : List Addr} {vs : List V} {ds : List D} {z : List Key × List D}, OwL K mg S σ H B vs ds → plainL ds = true → pairsD ds = some z →
    ∃ (ps : List Addr) (kvs : List (Key × V)), vs = ps.map V.ref ∧ Paired (fun p kv => SqT K H p [kV kv.1, kv.2]) ps kvs ∧ kvs.map (·.1) = z.1 ∧ OwL K mg S σ H [] (kvs.map (·.2)) z.2
  | _, _, [], z, h, _, e => by
    cases h
    cases e
    exact ⟨[], [], rfl, .nil, rfl, .nil⟩
  | _, _, d :: ds, z, h, hp, e => by
    obtain ⟨k, v, q, z', rfl, h1, h2, rfl⟩ := pairs_inv e
    simp only [plainL, plain, Bool.and_eq_true] at hp
    cases h with
    | cons a b dj =>
      have e1 := a.bare (by simp [plain, plainL, hp.1.1, hp.1.2.1])
      subst e1
      obtain ⟨ps, kvs, rfl, g1, g2, g3⟩ := pairs_ok b hp.2 h2
      generalize hE : ([] : List Addr) = E at a
      cases a with
      | tup i l =>
        rename_i p ws
        obtain ⟨x, y, B1, B2, rfl, o1, o2, b1, b2⟩ := l.inv2
        have e2 := keyD_V o1 h1
        subst e2
        have e3 : B2 = [] := o2.bare hp.1.2.1
        subst e3
        subst hE
        exact ⟨p :: ps, (q, y) :: kvs, rfl, .cons i.sq g1, by rw [List.map_cons, g2], .cons (B := []) o2 g3 (by simp)⟩
end
theorem putK_new {kvs : List (Key × V)} {k : Key} {v : V} (h : k ∉ kvs.map (·.1)) : putK kvs k v = kvs ++ [(k, v)] := by
  unfold putK
  rw [if_neg]
  intro z
  obtain ⟨kv, h1, h2⟩ := List.any_eq_true.mp z
  exact h (List.mem_map.mpr ⟨kv, h1, of_decide_eq_true h2⟩)
theorem mergeK_new : ∀ (more kvs : List (Key × V)), ((kvs ++ more).map (·.1)).Nodup → mergeK kvs more = kvs ++ more
  | [], kvs, _ => by simp [mergeK]
  | q :: more, kvs, h => by
    have e : kvs ++ q :: more = (kvs ++ [q]) ++ more := by simp
    have hq : q.1 ∉ kvs.map (·.1) := by
      rw [List.map_append, List.map_cons] at h
      exact fun z => (List.nodup_append.mp h).2.2 _ z _ List.mem_cons_self rfl
    rw [e] at h ⊢
    rw [← mergeK_new more (kvs ++ [q]) h]
    unfold mergeK
    rw [List.foldl_cons, putK_new hq]
theorem zip_maps {α β : Type} : ∀ kvs : List (α × β), (kvs.map (·.1)).zip (kvs.map (·.2)) = kvs
  | [] => rfl
  | q :: kvs => by rw [List.map_cons, List.map_cons, List.zip_cons_cons, zip_maps kvs]
section
variable {X : Cx} {W : WX} {k : Nat}
theorem b_dictOf (hc : X.calm = true) : BiR X (.type "dict") fDictOf := ⟨_, call_dictP hc, fun T env σ H A B vs ds d Q I o h q => by
  unfold fDictOf at h
  split at h
  · obtain ⟨es, h1, h4⟩ := Option.bind_eq_some_iff.mp h
    obtain ⟨c, h2, h3⟩ := Option.bind_eq_some_iff.mp h1
    split at h4
    · rename_i hp
      obtain ⟨z, h5, h6⟩ := Option.bind_eq_some_iff.mp h4
      split at h6
      · rename_i nd
        cases h6
        obtain ⟨v, B1, rfl, o1, _⟩ := o.inv1
        obtain ⟨B2, o2⟩ := I.rd o1 h2
        obtain ⟨a, ws, B3, rfl, sq, ol⟩ := o2.seqL h3
        have ol' : OwL X.K X.mg (SA A (TB T [])) σ H [] ws es := (ol.bareL hp).weak fun p z => z.imp (fun z => z.imp id fun z => by cases z) id
        obtain ⟨ps, kvs, rfl, g1, g2, g3⟩ := pairs_ok (ol'.bareL hp) hp h5
        refine ⟨a, ps, kvs, rfl, sq, g1, fun l nl => ?_⟩
        rw [mergeK_new kvs [] (by rw [List.nil_append, g2]; exact nd), List.nil_append]
        refine q _ _ [l] (fun b u e => by rw [upd_ne (ne_of_none e nl)]; exact e) (by simp [nl]) ?_
        have e4 : kvs = z.1.zip (kvs.map (·.2)) := by rw [← g2, zip_maps]
        have e5 : z.1.length = (kvs.map (·.2)).length := by rw [← g2, List.length_map, List.length_map]
        have hz : upd H l (.dK kvs) l = some (.dK (z.1.zip (kvs.map (·.2)))) := by rw [← e4]; exact upd_same
        exact .odic hz e5 (by simp) (g3.anew nl)
      · cases h6
    · cases h4
  · cases h⟩
end
@[simp] theorem z_dictOf (env : Env) (d : D) : fDictOf env [d] = ((rd env d).bind seqL).bind fun ds => if plainL ds = true then (pairsD ds).bind fun z => if z.1.Nodup then some (.odic z.1 z.2) else none else none := (Eq.refl _).trans (Eq.refl _)
end Dn
/-! Dn45: a tuple of texts of the module's top. -/
namespace Dn
open PySem PySem.Spec L2
structure GTup (K : PySem.W.Frag) (mg : Str → Option Value) (x : Str) (ds : List D) : Prop where
  ex : ∃ a o its n, ∃ zs : List Str, ds = zs.map D.str ∧ mg x = some (.ref a) ∧ K.lookup a = some o ∧ o.cls = .type "tuple" ∧ o.data = .seq its n ∧ its.size ≤ sizeLine ∧ Vals (zs.map V.str) its.toList
theorem gtup3 {K : PySem.W.Frag} {h : Heap} {mg : Str → Option Value} {x k1 k2 k3 : Str} {d : Addr} {n : Nat} {t1 t2 t3 : Tok} (kin : K.In h) (gl : h.Ns mainGlobals mg) (hx : PySem.W.nsIn K mainGlobals x = some (some (.ref d)))
    (hl : K.lookup d = some ⟨.type "tuple", none, .seq #[.str k1 t1, .str k2 t2, .str k3 t3] n, #[]⟩) : GTup K mg x [.str k1, .str k2, .str k3] :=
  ⟨d, _, _, n, [k1, k2, k3], rfl, PySem.W.mg_of kin gl hx, hl, rfl, rfl, by rw [sizeLine_eq]; show 3 ≤ _; omega, .cons ⟨t1, rfl⟩ (.cons ⟨t2, rfl⟩ (.cons ⟨t3, rfl⟩ .nil))⟩
theorem de_gtup {X : Cx} {W : WX} {x : Str} {ds : List D} {pos : Pos} (G : GTup X.K X.mg x ds) (hg : Gl X x := by rfl) (hd : (x == ("__debug__" : Str)) = false := by decide) : DE X W (.Name x pos) (dC (.tup ds)) := by
  obtain ⟨a, o, its, n, zs, rfl, h1, h2, h3, h4, h5, h6⟩ := G.ex
  exact ⟨_, pe_glob (v := .ref a) hg h1 rfl hd, fun T env σ H A Q I k => k.flat I (.tup (.inr ⟨o, its, n, h2, h3, h4, h5, h6⟩) (OwL.strs_of zs))⟩
end Dn
/-! Dn46: enumerate of a tuple. -/
namespace Dn
open PySem PySem.Spec L2
set_option maxHeartbeats 1000000 in
theorem meets_enum1 {v : Value} {o : Obj} {H : Heap → Prop} (B : Begins v o H) :
    Meets (Builtin.«enumerate.__new__» ⟨[.type "enumerate", v], []⟩) (fun _ R s => H s.heap ∧
      R (.ok (.ret (.ref (s.heap.push o).objs.size))) { s with heap := (s.heap.push o).push { cls := .type "enumerate", data := .fields #[.none, .bool false, .ref s.heap.objs.size, rawInt 0, .none, .none] } }) :=
  .of_wp fun prog w A R s h => by
    obtain ⟨hp, g, d, tk, os⟩ := s; obtain ⟨h1, h⟩ := h
    have hsub := sub_enumerate
    have q1 : ∀ {A' : Around} {E : Value → Shared → Prop} {Q : Value → Shared → Prop}, Q (.ref hp.objs.size) ⟨hp.push o, g, d, tk, os⟩ → wpAny (model prog w) A' (pyIter v) Q E ⟨hp, g, d, tk, os⟩ :=
      fun q => B.iter prog w _ _ ⟨hp, g, d, tk, os⟩ _ h1 q
    wp_walk using q1
    refine wpAny_stack_any fun st => wpAny_pure ?_
    split
    · rename_i c _ _ _ _ _
      cases (c == Value.type "enumerate")
      · wp_walk using q1
        exact ⟨_, rfl, h⟩
      · wp_walk using q1
        exact ⟨_, rfl, h⟩
    · wp_walk using q1
      exact ⟨_, rfl, h⟩
section
variable {prog : Program} {w : World} {A : Around} {E : Value → Shared → Prop} {s : Shared}
theorem call_enum1 {v : Value} {o : Obj} {H : Heap → Prop} {Q : Value → Shared → Prop} (B : Begins v o H) (h1 : H s.heap)
    (h : ∀ h', IsEnum h' (s.heap.objs.size + 1) s.heap.objs.size 0 .none → h'.get? s.heap.objs.size = some o → h'.objs.size = s.heap.objs.size + 2 →
      (∀ b o, s.heap.get? b = some o → h'.get? b = some o) → Q (.ref (s.heap.objs.size + 1)) { s with heap := h' }) :
    wpAny (model prog w) A (call (.type "enumerate") [v]) Q E s := by
  refine callType_new F.called_enumerate (by decide) (F.typeCall_enumerate_1 _) (F.newCall_enumerate_1 _) (fun obj => F.args_object_init_2 obj _) F.entry_enumerate_new
    (meets_enum1 B) ⟨h1, ?_⟩
  have hz : (s.heap.push o).objs.size = s.heap.objs.size + 1 := Heap.size_push ..
  show _ ∧ _
  rw [hz]
  have he : IsEnum ((s.heap.push o).push { cls := .type "enumerate", data := .fields #[.none, .bool false, .ref s.heap.objs.size, rawInt 0, .none, .none] }) (s.heap.objs.size + 1) s.heap.objs.size 0 .none := by
    have := Heap.get?_push_size (s.heap.push o) (o := { cls := .type "enumerate", data := .fields #[.none, .bool false, .ref s.heap.objs.size, rawInt 0, .none, .none] }) rfl
    rw [hz] at this; exact this
  refine ⟨⟨_, he, rfl⟩, h _ he (Heap.get?_push_of_some _ (Heap.get?_push_size _ B.free)) (by rw [Heap.size_push, hz]) fun b o x => Heap.get?_push_of_some _ (Heap.get?_push_of_some _ x)⟩
theorem enumT_end {e it t : Addr} {i : Nat} {items : Array Value} {old : Value} {Q : Option Value → Shared → Prop} (hh : A.handled = none)
    (he : IsEnum s.heap e it i old) (hit : s.heap.IsTupleIter it t i) (ht : s.heap.IsTuple t items) (hx : items[i]? = none)
    (hQ : ∀ h', Heap.ExtBut it s.heap h' → Q none { s with heap := h' }) : wpAny (model prog w) A (pyNext (.ref e)) Q E s := by
  have hT : s.TypeIs (.ref e) "enumerate" := ⟨_, he, rfl⟩
  unfold pyNext
  refine wpAny_bind (wpAny_attempt (wpAny_callSpecial?_slot (name := Str.ofString "__next__") hT F.slot_enumerate_next
    (wpAny_call_entry F.slot_enumerate_next hT F.entry_enumerate_next ?_ (F.args_enumerate_next_1 _))))
  show wpAny _ _ (field (.ref e) 2 >>= _) _ _ _
  refine wpAny_bind (wpAny_field he rfl (x := .ref it) rfl ?_)
  refine wpAny_bind (wpAny_nextOf_tuple_end hh hit ht hx fun h' x he' hx' => ?_)
  obtain ⟨o, ho, hc⟩ := hx'
  refine wpAny_bind (wpAny_isInstance (T := "StopIteration") (b := true) ⟨o, ho, hc⟩ isSubtype_stop ?_)
  exact wpAny_pure (hQ _ he')
end
/-- the tuple at a, each item in a new pair -/
def ItT (K : PySem.W.Frag) (a : Addr) : It :=
  ⟨fun i H => ∃ (xs : List V) (x : V), SqT K H a xs ∧ xs[i]? = some x, fun i H v H' => ∃ T x, v = .ref T ∧ H T = none ∧ H' = upd H T (.tup [.int (i : Nat), x]) ∧ ∀ xs, SqT K H a xs → xs[i]? = some x, fun i H => ∃ xs : List V, SqT K H a xs ∧ xs.length ≤ i⟩
theorem turn_enumT {P : Program} {w : World} {K : PySem.W.Frag} {elts : List Expr} {kk : Nat} {tpos : Pos} (a e it : Addr) :
    Turn P w K (.Tuple elts kk tpos) (ItT K a) [e, it] e (fun i h => (∃ old, IsEnum h e it ((i : Nat) : Int) old) ∧ h.IsTupleIter it a i ∧ e ≠ it) where
  mem := by simp
  obj := fun i h st b hb => by
    obtain ⟨⟨old, he⟩, ⟨o, ho, hc, hd⟩, _⟩ := st
    have e' : b = e ∨ b = it := by simpa using hb
    rcases e' with z | z
    · rw [z]; exact ⟨_, he, fun v q => nomatch q⟩
    · rw [z]; exact ⟨o, ho, fun v q => by rw [hd] at q; cases q⟩
  keep := fun i h h' st k => let ⟨⟨old, he⟩, hi, hne⟩ := st; ⟨⟨old, k e (by simp) _ he⟩, hi.at fun o q => k it (by simp) o q, hne⟩
  item := by
    intro X hP hw hK hc i pins s σ H E I hf st hg
    subst hP hw hK
    obtain ⟨⟨old, he⟩, hit, hne⟩ := st
    obtain ⟨xs, x, hq, hx⟩ := hg
    obtain ⟨its, rv, p, hz⟩ := I.tuple hq
    obtain ⟨u, hu, ru⟩ := rv.get hx
    have hel : e < s.heap.objs.size := Heap.lt_size he
    have hil : it < s.heap.objs.size := by obtain ⟨_, q, _⟩ := hit; exact Heap.lt_size q
    have hai : a ≠ it := fun z => by
      subst z
      obtain ⟨o1, e1, c1, _⟩ := p
      obtain ⟨o2, e2, c2, _⟩ := hit
      rw [e1] at e2
      cases e2
      rw [c1] at c2
      exact absurd c2 (by decide)
    have hea : e ≠ a := fun z => by
      subst z
      obtain ⟨o1, e1, c1, _⟩ := p
      rw [he] at e1
      cases e1
      exact absurd (show Value.type "enumerate" = Value.type "tuple" from c1) (by decide)
    have hil2 : i < its.toArray.size := by
      have := (List.getElem?_eq_some_iff.mp hu).1
      simpa using this
    refine wpAny_pyNext_enum_itemD (Draws.tuple (A := X.A.in1) (I.ok.hd hc) it a hai its.toArray) he ⟨hit, p⟩ hil2 hne (by simp [hne, hea]) fun x' h' tk hx' ho hst' hT hsz hk => ?_
    have ex' : x' = u := by
      have h2 : its.toArray[i]? = some u := by simpa using hu
      rw [h2] at hx'
      exact (Option.some.inj hx').symm
    subst ex'
    refine ⟨_, rfl, wpAny_letOwnedTupleGo_enum (s := { s with heap := h', toks := tk + 1 }) ho fun h'' he' sb => ?_⟩
    have hT2 : h''.get? s.heap.objs.size = some { cls := .type "tuple", data := .seq #[.int i tk, x'] } := (sb.2 _ (Nat.ne_of_gt hel)).trans hT
    have new : ObjOk X.prog X.w (upd H s.heap.objs.size (.tup [.int (i : Nat), x])) h'' s.heap.objs.size (.tup [.int (i : Nat), x]) :=
      ⟨by show 2 ≤ sizeLine; decide, [.int i tk, x'], .cons ⟨_, rfl⟩ (.cons ru .nil), ⟨_, hT2, rfl, _, rfl⟩⟩
    have I1 : Inv X pins σ (upd H s.heap.objs.size (.tup [.int (i : Nat), x])) { s with heap := h'', toks := tk + 1 } :=
      I.turnedNew (ch := [e, it]) (fun b ob hb q => (sb.2 b (fun z => hb (by simp [z]))).trans (hk b ob (fun z => hb (by simp [z])) (fun z => hb (by simp [z])) q)) hf (Nat.le_refl _) new
    refine ⟨.ref s.heap.objs.size, _, I1, rfl, ⟨_, x, rfl, I.hok.fresh (Nat.le_refl _), rfl, fun ys hy => by rw [I.tuple_inj hy hq]; exact hx⟩, ⟨⟨x', ?_⟩, hst'.1.at fun o q => (sb.2 it (Ne.symm hne)).trans q, hne⟩, fun b hb => ?_⟩
    · have e1 : ((i + 1 : Nat) : Int) = (i : Int) + 1 := by omega
      rw [e1]; exact he'
    · have hb' : b < s.heap.objs.size := by
        have e' : b = e ∨ b = it := by simpa using hb
        rcases e' with z | z
        · rw [z]; exact hel
        · rw [z]; exact hil
      rw [upd_ne (Nat.ne_of_lt hb')]
      exact (hf b hb).1
  done := by
    intro X hP hw hK hc i pins s σ H E I hf st hg
    subst hP hw hK
    obtain ⟨⟨old, he⟩, hit, hne⟩ := st
    obtain ⟨xs, hq, hx⟩ := hg
    obtain ⟨its, rv, p, hz⟩ := I.tuple hq
    obtain ⟨f0, f1, f2, f3, f4, f5⟩ := hf it (by simp)
    have hl := rv.length
    exact enumT_end (I.ok.hd hc) he hit p (by simp; omega) fun h' eb => ⟨rfl, I.turned (t' := s.toks) (fun b o hb q => eb b o hb q) f0 f1 f3 f4 f5⟩
  self := fun A i s Q E st h => let ⟨⟨_, he⟩, _⟩ := st; wpAny_pyIter_enum he h
def iEnumT (K : PySem.W.Frag) (ta : TA) : TI := fun σ H R => ta σ H fun vs H1 => ∃ a xs, vs = [.ref a] ∧ SqT K H1 a xs ∧ R (ItT K a) H1
theorem pi_enumT {X : Cx} {e : Expr} {ta : TA} {p pos tpos : Pos} {elts : List Expr} {kk : Nat} (hg : Gl X "enumerate") (hm : X.mg "enumerate" = none) (ha : PA X [e] ta) (hs : starEach [e] X.env = [(false, eval e X.env)] := by rfl) :
    PI X (.Tuple elts kk tpos) (.Call (.Name "enumerate" p) [e] [] pos) (iEnumT X.K ta) := by
  refine ⟨fun pins s σ H R I h => ?_⟩
  refine PyProof.Rows.Call_ (ld_blt I hg hm PyProof.Rows.boot_enumerate (PyProof.Rows.callWith_type1 (thn (ha.run pos pins s σ H _ I h) fun us s1 ⟨vs, H1, I1, r1, q1⟩ => ?_) hs rfl))
  obtain ⟨a, xs, ex, hq, q⟩ := q1
  subst ex
  cases r1 with
  | cons r rr =>
    cases rr
    cases r
    obtain ⟨its, rv, p', hz⟩ := I1.tuple hq
    refine call_enum1 (begins_tuple a its.toArray) p' fun h' he hit hsz hk => wpAny_pyIter_enum he ?_
    have I2 : Inv X pins σ H1 { s1 with heap := h' } := I1.kept (t' := s1.toks) hk
    refine ⟨s1.heap.objs.size + 1, [s1.heap.objs.size + 1, s1.heap.objs.size], _, _, H1, rfl, I2, turn_enumT a (s1.heap.objs.size + 1) s1.heap.objs.size, ⟨⟨.none, he⟩, ⟨_, hit, rfl, rfl⟩, Nat.succ_ne_self _⟩, fun b hb => ?_, q⟩
    have e' : b = s1.heap.objs.size + 1 ∨ b = s1.heap.objs.size := by simpa using hb
    have hle : s1.heap.objs.size ≤ b := by
      rcases e' with z | z
      · rw [z]; exact Nat.le_add_right _ _
      · rw [z]; exact Nat.le_refl _
    exact I1.fpOk hle (I1.hok.fresh hle)
def seqTp : D → Option (List D)
  | .tup ds => some ds
  | _ => none
def dEnumT (f : Env → Out D) : Env → Out (List D) := fun env => (f env).bind fun d env1 => match mv d env1 with
  | some (d', env2) => match seqTp (frz d') with
    | some ds => .ok (enD ds) env2
    | none => .bad
  | none => .bad
section
variable {X : Cx} {W : WX}
theorem itok_enumT {K : PySem.W.Frag} {mg : Str → Option Value} {a : Addr} {c : D} {ds : List D} (hc : seqTp c = some ds) (hp : plainL ds = true) : ItOk K mg (ItT K a) (enD ds) [.ref a] [c] := by
  intro S σ H o hS i
  obtain ⟨v, B1, e, o1, hB⟩ := o.inv1
  cases e
  have key : ∃ vs B', SqT K H a vs ∧ OwL K mg S σ H B' vs ds ∧ B' = [] := by
    cases o1 with
    | tup q l => cases hc; exact ⟨_, _, q.sq, l, l.bare hp⟩
    | _ => cases hc
  obtain ⟨vs, B', sq, l, rfl⟩ := key
  refine ⟨fun h => ⟨_, sq, by rw [l.length]; unfold enD at h; rw [List.length_mapIdx] at h; exact h⟩, fun d e => ?_⟩
  obtain ⟨x, h1, rfl⟩ := enD_get e
  obtain ⟨v, B2, h2, h3, h4⟩ := l.get h1
  have hB2 : B2 = [] := by
    cases B2 with
    | nil => rfl
    | cons p _ => cases h4 p List.mem_cons_self
  subst hB2
  refine ⟨⟨_, v, sq, h2⟩, fun y H' ⟨t, z, e1, nt, e2, fy⟩ => ?_⟩
  subst e1 e2
  have ez := (fy _ sq).symm.trans h2
  cases ez
  have kp : ∀ b u, H b = some u → upd H t (.tup [.int (i : Nat), v]) b = some u := fun b u e => by rw [upd_ne (ne_of_none e nt)]; exact e
  refine ⟨kp, .tup (.inl ⟨fun z => hS t z nt, .inl upd_same⟩) ?_⟩
  exact OwL.cons (A := []) (B := []) (.int _) (OwL.cons (A := []) (B := []) (h3.chg (Bp := fun _ => True) ⟨fun b u e _ => kp b u e, fun _ _ z => z⟩ (fun _ _ => trivial) fun _ _ e => .inr e) .nil (by simp)) (by simp)
theorem si_enumT {te : TE} {f : Env → Out D} (hf : SE X W te f) : SI X W (iEnumT X.K (tCons te tNil)) (dEnumT f) := fun T env σ H A R I h => by
  refine hf T env σ H A _ I ?_
  unfold dEnumT at h
  cases e : f env with
  | bad => rw [e] at h; exact h
  | err x env' => rw [e] at h; exact h
  | ok d env1 =>
    rw [e, Out.bind_ok] at h
    intro v H1 A1 B1 m1 I1 o1
    cases em : mv d env1 with
    | none => rw [em] at h; exact h.elim
    | some q =>
      obtain ⟨d', env2⟩ := q
      rw [em] at h
      simp only at h
      obtain ⟨A2, I2, o2, n2, m2⟩ := froze I m1 I1 o1 em
      cases eq : seqTp (frz d') with
      | none => rw [eq] at h; exact h.elim
      | some ds =>
        rw [eq] at h
        obtain ⟨hp, h⟩ := h
        have pd : plainL ds = true := by
          have p0 := plain_frz _ n2
          cases ef : frz d' with
          | tup xs => rw [ef] at eq p0; cases eq; simpa [plain] using p0
          | _ => rw [ef] at eq; cases eq
        have key : ∃ a vs, v = .ref a ∧ SqT X.K H1 a vs := by
          generalize frz d' = c at o2 eq
          cases o2 with
          | tup q l => exact ⟨_, _, rfl, q.sq⟩
          | _ => cases eq
        obtain ⟨a, vs, rfl, sq⟩ := key
        exact ⟨a, vs, rfl, sq, h _ H1 A2 _ _ m2 I2 (OwL.cons (A := []) (B := []) o2 .nil (by simp)) (by simp [noBorL, plain_noBor _ (plain_frz _ n2)]) (itok_enumT eq pd)⟩
theorem di_enumT {e : Expr} {p pos tpos : Pos} {elts : List Expr} {kk : Nat} {f : Env → Out D} (hg : Gl X "enumerate") (hm : X.mg "enumerate" = none) (ha : DE X W e f) (hs : starEach [e] X.env = [(false, eval e X.env)] := by rfl) :
    DI X W (.Tuple elts kk tpos) (.Call (.Name "enumerate" p) [e] [] pos) (dEnumT f) := let ⟨_, a, b⟩ := ha; ⟨_, pi_enumT hg hm (pa_cons a pa_nil hs) hs, si_enumT b⟩
end
section
variable (env e1 : Env) (f : Env → Out D) (d : D) (ds xs : List D)
def etO2 (o : Option (List D)) (env : Env) : Out (List D) := match o with
  | some ds => .ok (enD ds) env
  | none => .bad
def etO1 (o : Option (D × Env)) : Out (List D) := match o with
  | some (d', env2) => etO2 (seqTp (frz d')) env2
  | none => .bad
def etO (o : Out D) : Out (List D) := o.bind fun d env1 => etO1 (mv d env1)
@[simp] theorem z_enumT : dEnumT f env = etO (f env) := (Eq.refl _).trans (Eq.refl _)
@[simp] theorem z_et0 : etO (.ok d e1) = etO1 (mv d e1) := (Eq.refl _).trans (Eq.refl _)
@[simp] theorem z_et1 : etO1 (some (d, e1)) = etO2 (seqTp (frz d)) e1 := (Eq.refl _).trans (Eq.refl _)
@[simp] theorem z_et2 : etO2 (some ds) e1 = .ok (enD ds) e1 := (Eq.refl _).trans (Eq.refl _)
@[simp] theorem z_etl : seqTp (.tup xs) = some xs := (Eq.refl _).trans (Eq.refl _)
end
end Dn
/-! Dn47: an item of a new tuple, taken with what it owns. -/
namespace Dn
open PySem PySem.Spec L2
def ixO1 (ds : List D) (env : Env) : Out D := match ds with
  | [.tup xs, .int i] => (match atI xs i with
    | some d => .ok d env
    | none => .bad)
  | _ => .bad
def dIxO (f g : Env → Out D) : Env → Out D := fun env => (dCons f (dCons g dNil) env).bind fun ds env1 => ixO1 ds env1
section
variable {X : Cx} {W : WX}
theorem se_ixO {ta tb : TE} {f g : Env → Out D} (ha : SE X W ta f) (hb : SE X W tb g) : SE X W (tOp (rIxT X.K) ta tb) (dIxO f g) := fun T env σ H A Q I h => by
  have main : tCB (r2 (rIxT X.K)) (tCons ta (tCons tb tNil)) σ H Q := by
    refine (sl_cons ha (sl_cons hb sl_nil)) T env σ H A _ I ?_
    unfold dIxO at h
    cases e : dCons f (dCons g dNil) env with
    | bad => rw [e] at h; exact h
    | err x env' => rw [e] at h; exact h
    | ok ds env1 =>
      rw [e, Out.bind_ok] at h
      intro vs H1 A1 B1 m1 I1 o1
      unfold ixO1 at h
      split at h
      · rename_i xs i
        split at h
        · rename_i d ed
          obtain ⟨v, u, Ba, Bb, rfl, oa, ob, sa, sb⟩ := o1.inv2
          have := ob.intv
          subst this
          cases oa with
          | tup q l =>
            obtain ⟨w, B4, h8, h9, h10⟩ := l.atI ed
            refine ⟨_, _, _, w, rfl, rfl, q.sq, h8, ?_⟩
            have sub4 : ∀ p ∈ B4, p ∈ B1 := fun p hp => sa p (h10 p hp)
            have sT : ∀ p, TB T B4 p → TB T B1 p := fun p z => z.imp id fun z => sub4 p z
            exact h w H1 A1 B4 (m1.fewer fun p z => .inl (sub4 p z)) (I1.weak sT) (h9.weak fun p z => z.imp (sT p) id)
        · exact h.elim
      · exact h.elim
  exact main
theorem de_ixO {a b : Expr} {pos : Pos} {f g : Env → Out D} (ha : DE X W a f) (hb : DE X W b g) (hs : PlainIx b) : DE X W (.Subscript a b pos) (dIxO f g) := by
  obtain ⟨t, p, s⟩ := ha
  obtain ⟨u, p', s'⟩ := hb
  exact ⟨_, pe_ix ix_tup p p' hs, se_ixO s s'⟩
end
def iyO (o : Out (List D)) : Out D := o.bind fun ds env1 => ixO1 ds env1
def iyO1 (env : Env) (o : Option D) : Out D := match o with
  | some d => .ok d env
  | none => .bad
section
variable (f g : Env → Out D) (env e1 : Env) (xs ds : List D) (i : Int) (d : D)
@[simp] theorem z_ixOO : dIxO f g env = iyO (dCons f (dCons g dNil) env) := (Eq.refl _).trans (Eq.refl _)
@[simp] theorem z_iy : iyO (.ok [.tup xs, .int i] e1) = iyO1 e1 (atI xs i) := (Eq.refl _).trans (Eq.refl _)
@[simp] theorem z_iy1 : iyO1 e1 (some d) = .ok d e1 := (Eq.refl _).trans (Eq.refl _)
end
end Dn
/-! Dn48: dict comprehensions. -/
namespace Dn
open PySem PySem.Spec L2
/-- the turns of a dict comprehension -/
def dcL (tgt : D → Env → Option Env) (tst : Env → Out Bool) (fk fv : Env → Out D) (own : List Nat) : List D → List Key → List D → Env → Out (List Key × List D)
  | [], ks, acc, env => .ok (ks, acc) env
  | d :: ds, ks, acc, env => match tgt d (wipeE env own) with
    | none => .bad
    | some env1 => match tst env1 with
      | .ok true env2 => match fk env2 with
        | .ok kd env3 => match keyD kd with
          | some k => match fv env3 with
            | .ok e env4 => match mv e env4 with
              | some (e', env5) => if ks.length < sizeLine then dcL tgt tst fk fv own ds (putKs ks k) (putVs ks acc k (frz e')) env5 else .bad
              | none => .bad
            | _ => .bad
          | none => .bad
        | _ => .bad
      | .ok false env2 => dcL tgt tst fk fv own ds ks acc env2
      | _ => .bad
def dDc (fi : Env → Out (List D)) (tgt : D → Env → Option Env) (tst : Env → Out Bool) (fk fv : Env → Out D) (own : List Nat) : Env → Out D := fun env => match fi env with
  | .ok items env1 => if plainL items = true then match dcL tgt tst fk fv own items [] [] env1 with
    | .ok acc env2 => .ok (.odic acc.1 acc.2) (wipeE env2 own)
    | _ => .bad
    else .bad
  | .err x env1 => .err x env1
  | .bad => .bad
section
variable {X : Cx} {W : WX} {scope : Scope}
theorem se_dc {wi : TI} {g : TG} {tt : TT} {tk te : TE} {fi : Env → Out (List D)} {tgt : D → Env → Option Env} {tst : Env → Out Bool} {fk elt : Env → Out D} {own : List Nat} (hi : SI X W wi fi) (hg : SG X (fun i => !own.contains i) g tgt) (ht : ST X W0 tt tst) (hk : SE X W0 tk fk) (he : SE X W0 te elt) :
    SE X W (tDc wi g tt tk te own) (dDc fi tgt tst fk elt own) := fun T env σ H A Q I h => by
  refine hi T env σ H A _ I ?_
  unfold dDc at h
  cases e : fi env with
  | bad => rw [e] at h; exact h
  | err x env' => rw [e] at h; exact h
  | ok items env1 =>
    rw [e] at h
    simp only at h
    split at h
    · rename_i hp
      refine ⟨hp, fun J H1 A1 vs sd m1 I1 o1 nsd ok => fun L nL => ?_⟩
      have kL := keep_new (ho := HO.dK []) nL
      have I2 : EnvOk X.K X.mg (TB T [L]) env1 σ (upd H1 L (.dK [])) A1 := I1.grow kL (new_one nL) fun q hq => by
        rw [List.mem_singleton] at hq; subst hq; rw [upd_same]; simp
      have o2 : OwL X.K X.mg (SA A1 (TB T [L])) σ (upd H1 L (.dK [])) [] vs sd := o1.chg (Bp := fun _ => True) ⟨fun b u e _ => kL b u e, fun b hb z => by
        rcases z with (z | z) | z
        · exact .inl z
        · rw [List.mem_singleton] at z; subst z; exact absurd nL hb
        · exact .inr z⟩ (fun _ _ => trivial) fun _ _ _ => .inl nsd
      refine ⟨fun i m H2 => m = items.length - i ∧ i ≤ items.length ∧ ∃ env2 A2 σ2, ∃ ks : List Key, ∃ acc vacc, Moved A A2 [] H H2 ∧ EnvOk X.K X.mg (TB T [L]) env2 σ2 H2 A2 ∧ wipe σ2 own = wipe σ own ∧ σ2.length = σ.length ∧ OwL X.K X.mg (SA A2 (TB T [L])) σ2 H2 [] vs sd ∧ H2 L = some (.dK (ks.zip vacc)) ∧ ks.length = vacc.length ∧
          OwL X.K X.mg (SA A2 (TB T [L])) σ2 H2 [] vacc acc ∧ plainL acc = true ∧ WD X W T A σ H (match dcL tgt tst fk elt own (items.drop i) ks acc env2 with | .ok acc env2 => .ok (.odic acc.1 acc.2) (wipeE env2 own) | _ => .bad) Q,
        ⟨_, rfl, Nat.zero_le _, env1, A1, σ, [], [], [], ⟨fun b u e nb => kL b u (m1.keep b u e nb), fun p z => m1.new p z⟩, I2, rfl, rfl, o2, upd_same, rfl, .nil, rfl, by rw [List.drop_zero]; exact h⟩, ?_⟩
      rintro i m H2 ⟨rfl, hle, env2, A2, σ2, ks, acc, vacc, m2, I2, hw2, hl2, o2, eL, lL, oL, pL, w2⟩
      obtain ⟨ok1, ok2⟩ := ok _ _ _ o2 (fun p z => I2.there p z) i
      by_cases hlt : i < items.length
      · have ei : items[i]? = some items[i] := by simp [hlt]
        obtain ⟨go, yl⟩ := ok2 _ ei
        refine .inr ⟨go, _, fun H3 z => ⟨items.length - (i + 1), by omega, rfl, by omega, z⟩, fun x H3 y => ?_⟩
        obtain ⟨kp, ox⟩ := yl x H3 y
        rw [List.drop_eq_getElem_cons hlt, dcL] at w2
        have pd : plain items[i] = true := plainL_get hp ei
        obtain ⟨A2w, I2w, s2w⟩ := I2.wiped own
        have I2s : EnvOk X.K X.mg (TB T [L]) (wipeE env2 own) (wipe σ own) H3 A2w := by rw [← hw2]; exact I2w.more kp
        have mw : Moved A2 A2w [] H2 H3 := ⟨fun b o e _ => kp b o e, fun p z => by
          rcases z with z | ⟨j, z⟩
          · cases z
          · exact .inl ⟨j, s2w j p z⟩⟩
        cases et : tgt items[i] (wipeE env2 own) with
        | none => rw [et] at w2; exact w2.elim
        | some env3 =>
          rw [et] at w2
          simp only at w2
          refine hg (TB T [L]) (wipeE env2 own) (wipe σ own) H3 A2w [] x items[i] env3 _ (I2s.weak tbn) ((ox.slots (plain_noBor _ pd) _).weak fun p z => ?_) (plain_noBor _ pd) (by simp) et fun σ4 A4 I4 s4 f4 => ?_
          · rcases z with (z | z) | ⟨j, z⟩
            · exact .inl z
            · cases z
            · exact .inr ⟨j, s2w j p z⟩
          have m4 : Moved A2 A4 [] H2 H3 := ⟨mw.keep, fun p z => by
            rcases z with z | ⟨j, z⟩
            · cases z
            · rcases s4 j p z with z | ⟨k, z⟩
              · cases z
              · exact .inl ⟨k, s2w k p z⟩⟩
          have hw4 : wipe σ4 own = wipe σ own := wipe_fix f4
          have hl4 : σ4.length = σ.length := by rw [f4.1, wipe_length]
          refine ⟨hw4.trans wipe_wipe.symm |>.trans (by rw [wipe_wipe]), ?_⟩
          have eL3 : H3 L = some (.dK (ks.zip vacc)) := kp L _ eL
          have nacc : noBorL acc = true := plainL_noBor _ pL
          refine ht (TB T [L]) env3 σ4 H3 A4 _ I4 ?_
          cases e5 : tst env3 with
          | bad => rw [e5] at w2; exact w2.elim
          | err x env' => rw [e5] at w2; exact w2.elim
          | ok b env5 =>
            rw [e5] at w2
            intro H5 A5 m5 I5
            have m25 : Moved A2 A5 [] H2 H5 := m4.trans m5 fun p z => by cases z
            cases b with
            | false =>
              rw [if_neg Bool.false_ne_true]
              exact ⟨env5, A5, σ4, ks, acc, vacc, m2.trans m25 (fun p z => by cases z), I5, hw4, hl4, o2.moved nsd m25, kept_at I2 m25 eL, lL, oL.moved nacc m25, pL, w2⟩
            | true =>
              rw [if_pos rfl]
              simp only at w2
              refine hk (TB T [L]) env5 σ4 H5 A5 _ I5 ?_
              cases ek : fk env5 with
              | bad => rw [ek] at w2; exact w2.elim
              | err x env' => rw [ek] at w2; exact w2.elim
              | ok kd env5b =>
                rw [ek] at w2
                simp only at w2
                intro vk H5b A5b B5b m5b I5b o5b
                cases ekd : keyD kd with
                | none => rw [ekd] at w2; exact w2.elim
                | some k =>
                  rw [ekd] at w2
                  simp only at w2
                  have evk := keyD_V o5b ekd
                  subst evk
                  have I5c : EnvOk X.K X.mg (TB T [L]) env5b σ4 H5b A5b := I5b.drop
                  have m5c : Moved A5 A5b [] H5 H5b := m5b.fewer fun p z => by cases z
                  have m25b : Moved A2 A5b [] H2 H5b := m25.trans m5c fun p z => by cases z
                  refine he (TB T [L]) env5b σ4 H5b A5b _ I5c ?_
                  cases e6 : elt env5b with
                  | bad => rw [e6] at w2; exact w2.elim
                  | err x env' => rw [e6] at w2; exact w2.elim
                  | ok d6 env6 =>
                    rw [e6] at w2
                    simp only at w2
                    intro v6 H6 A6 B6 m6 I6 o6
                    cases em : mv d6 env6 with
                    | none => rw [em] at w2; exact w2.elim
                    | some q =>
                      obtain ⟨d7, env7⟩ := q
                      rw [em] at w2
                      simp only at w2
                      by_cases hz : ks.length < sizeLine
                      · rw [if_pos hz] at w2
                        obtain ⟨A7, I7, o7, n7, m7⟩ := froze I5c m6 I6 o6 em
                        have m27 : Moved A2 A7 [] H2 H6 := m25b.trans m7 fun p z => by cases z
                        have eL6 : H6 L = some (.dK (ks.zip vacc)) := kept_at I2 m27 eL
                        have hzl : (ks.zip vacc).length < sizeLine := by rw [List.length_zip, ← lL, Nat.min_self]; exact hz
                        obtain ⟨pz1, pz2⟩ := put_zip (k := k) (v := v6) lL
                        refine ⟨ks.zip vacc, k, rfl, eL6, hzl, env7, A7, σ4, putKs ks k, putVs ks acc k (frz d7), putVs ks vacc k v6, ?_⟩
                        have nLA : ∀ j, L ∉ A7 j := fun j z => I7.sep j L z (.inr List.mem_cons_self)
                        have cg : ∀ {Bp : Addr → Prop}, Chg (SA A7 (TB T [L])) (SA A7 (TB T [L])) (fun b => b ≠ L) H6 (upd H6 L (.dK (putK (ks.zip vacc) k v6))) := fun {Bp} => ⟨fun b u e z => by
                          have hb : b ≠ L := fun q => by
                            subst q
                            rcases z with z | z
                            · exact z (.inl (.inr List.mem_cons_self))
                            · exact z rfl
                          rw [upd_ne hb]; exact e, fun _ _ z => z⟩
                        refine ⟨⟨fun b u e nb => ?_, fun p z => ?_⟩, ⟨I7.len, fun j d e => ?_, I7.emp, I7.dis, I7.sep, fun p z => ?_⟩, hw4, hl4, ?_, by rw [← pz1]; exact upd_same, pz2, ?_, ?_, w2⟩
                        · have hb : b ≠ L := fun q => by
                            subst q
                            have := m1.keep b u e nb
                            rw [nL] at this
                            cases this
                          rw [upd_ne hb]
                          exact (m2.trans m27 (B := []) fun p z => by cases z).keep b u e nb
                        · exact (m2.trans m27 (B := []) fun p z => by cases z).new p z
                        · obtain ⟨n, v, s, o⟩ := I7.slot j d e
                          exact ⟨n, v, s, o.chg (Bp := fun b => b ≠ L) (cg (Bp := fun _ => True)) (fun p hp q => nLA j (q ▸ hp)) fun _ _ e => .inr e⟩
                        · by_cases hb : p = L
                          · subst hb; rw [upd_same]; simp
                          · rw [upd_ne hb]; exact I7.tt p z
                        · exact (o2.moved (σ' := σ4) nsd m27).chg (Bp := fun b => b ≠ L) (cg (Bp := fun _ => True)) (fun p hp => by cases hp) fun _ _ e => .inr e
                        · refine OwL.putK1 ?_ ?_
                          · exact o7.chg (Bp := fun b => b ≠ L) (cg (Bp := fun _ => True)) (fun p hp => by cases hp) fun _ _ e => .inr e
                          · exact (oL.moved (σ' := σ4) nacc m27).chg (Bp := fun b => b ≠ L) (cg (Bp := fun _ => True)) (fun p hp => by cases hp) fun _ _ e => .inr e
                        · exact plain_put (plain_frz _ n7) pL
                      · rw [if_neg hz] at w2; exact w2.elim
      · have e : i = items.length := by omega
        subst e
        rw [List.drop_length, dcL] at w2
        refine .inl ⟨ok1 (Nat.le_refl _), ?_⟩
        obtain ⟨A3, I3, s3⟩ := I2.wiped own
        have I4 : EnvOk X.K X.mg (TB T [L]) (wipeE env2 own) σ H2 A3 := I3.less (by rw [wipe_length, hl2]) fun j v e => by
          rw [hw2] at e
          exact (wipe_some e).1
        refine w2 _ H2 A3 [L] ⟨m2.keep, fun p z => ?_⟩ I4 (.odic eL lL (by simp) ((oL.weak fun p z => z.imp id fun ⟨j, z⟩ => ⟨j, s3 j p z⟩).slots (plainL_noBor _ pL) σ))
        rcases z with z | ⟨j, z⟩
        · rw [List.mem_singleton] at z
          subst z
          exact m1.back nL
        · exact m2.new p (.inr ⟨j, s3 j p z⟩)
    · exact h.elim
theorem de_dc {k : Nat} {kx vx tg iter : Expr} {ifs : List Expr} {pos : Pos} {fi : Env → Out (List D)} {tgt : D → Env → Option Env} {tst : Env → Out Bool} {f fv : Env → Out D} (own : List (Str × Nat)) (Z : Sit X W k) (hi : DI X W tg iter fi) (ok : blkC X.N X.env.scope scope own = true)
    (hg : ∀ s H C cl fp, DG (blkX X scope s H C cl fp) (fun i => !(own.map (·.2)).contains i) tg tgt) (ht : ∀ s H C cl fp, DTs (blkX X scope s H C cl fp) W0 ifs tst) (hk : ∀ s H C cl fp, DE (blkX X scope s H C cl fp) W0 kx f) (he : ∀ s H C cl fp, DE (blkX X scope s H C cl fp) W0 vx fv) (hs : ∀ x, foldedSetIterable iter X.env x = pure x := by intro _; rfl) :
    DE X W (.DictComp kx vx [⟨tg, iter, ifs, 0⟩] scope pos) (dDc fi tgt tst f fv (own.map (·.2))) := by
  obtain ⟨_, a, b⟩ := hi
  exact ⟨_, pe_dc Z.calm Z.nd a (blkOk_by ok) (fun s H C cl fp => wpG_pg s H C cl fp) (fun s H C cl fp => wpT_pt s H C cl fp) (fun s H C cl fp => wpE_pe s H C cl fp) (fun s H C cl fp => wpE_pe s H C cl fp) hs, se_dc b (wpG_sg hg) (wpT_st ht) (wpE_se hk) (wpE_se he)⟩
/-- y = {..}, a statement of its own -/
theorem ps_setDc {i : Nat} {y : Str} {py : Pos} {kx vx tg iter : Expr} {ifs : List Expr} {own : List (Str × Nat)} {pos spos : Pos} {wi : TI} {g : TG} {tt : TT} {tk te : TE} (hc : X.calm = true) (hN : X.N.Nodup) (hy : X.N[i]? = some y) (hyl : X.env.scope.names.lookup y = some .local)
    (hsw : swapsWith (.DictComp kx vx [⟨tg, iter, ifs, 0⟩] scope pos) (some (.Name y py)) spos.line X.env = pure true) (hi : PI X tg iter wi) (ok : BlkOk X.N X.env.scope scope own)
    (hg : ∀ (s : Shared) (H : Hp) (C : Addr) (cl : List (Str × Addr)) (fp : List Addr), PG (X.blk s H scope (compEnvC scope cl C X.env) fp) tg g) (ht : ∀ (s : Shared) (H : Hp) (C : Addr) (cl : List (Str × Addr)) (fp : List Addr), PTs (X.blk s H scope (compEnvC scope cl C X.env) fp) ifs tt)
    (hk : ∀ (s : Shared) (H : Hp) (C : Addr) (cl : List (Str × Addr)) (fp : List Addr), PE (X.blk s H scope (compEnvC scope cl C X.env) fp) kx tk) (he : ∀ (s : Shared) (H : Hp) (C : Addr) (cl : List (Str × Addr)) (fp : List Addr), PE (X.blk s H scope (compEnvC scope cl C X.env) fp) vx te) (hs : ∀ x, foldedSetIterable iter X.env x = pure x := by intro _; rfl) :
    PS X (.Assign [.Name y py] (.DictComp kx vx [⟨tg, iter, ifs, 0⟩] scope pos) spos) (tAsg (tDc wi g tt tk te (own.map (·.2))) (gName i)) := by
  refine ⟨fun pins s σ H D I h => ?_⟩
  rw [exec_Assign_Name_used _ _ _ _ hsw]
  refine wpAny_bind (wpAny_standAt (wpAny_bind ?_))
  show wpAny _ X.A (do let _ ← comprehension (.DictComp kx vx [⟨tg, iter, ifs, 0⟩] scope pos) scope X.env (firstIterPos [⟨tg, iter, ifs, 0⟩] pos) newDict false (eval iter X.env) (some (assign (.Name y py) X.env))) _ _ s
  have h : tDc wi g tt tk te (own.map (·.2)) σ H (fun x H1 => gName i x σ H1 D.nx) := h
  refine wpAny_bind (thn (dc_core (Qf := fun _ s' => SP X pins D .next s') hc hN I hi ok hg ht hk he hs h fun L C s' m H' I' q hn f => ?_) fun _ s' hq => wpAny_pure (wpAny_pure hq))
  show wpAny _ _ (assign (.Name y py) X.env (.ref L)) _ _ _
  refine wpAny_assign_Name (store_ok2 (v := V.ref L) I' hN hy (.inl hyl) rfl (fun s2 I2 ⟨a, sb, ha⟩ => ?_) (.inr hyl))
  obtain ⟨f0, f1, f2, f3, f4, f5⟩ := f
  have haC : C ≠ a := by
    rcases ha with z | z
    · rw [z]; exact f1
    · exact fun e => f4 y a z e.symm
  refine ⟨m, hn.sameBut sb haC, fun h3 sb3 => ?_⟩
  exact ⟨_, H', I2.turned (t' := s2.toks) (fun b o hb e => (sb3.2 b hb).trans e) f0 f1 f3 f4 f5, q⟩
theorem ds_setDc {k i : Nat} {y : Str} {py : Pos} {kx vx tg iter : Expr} {ifs : List Expr} {pos spos : Pos} {fi : Env → Out (List D)} {tgt : D → Env → Option Env} {tst : Env → Out Bool} {f fv : Env → Out D} {fx : Nat → Bool} (own : List (Str × Nat)) (Z : Sit X W k) (hy : X.N[i]? = some y) (hyl : X.env.scope.names.lookup y = some .local) (hfx : fx i = false)
    (hsw : swapsWith (.DictComp kx vx [⟨tg, iter, ifs, 0⟩] scope pos) (some (.Name y py)) spos.line X.env = pure true) (hi : DI X W tg iter fi) (ok : blkC X.N X.env.scope scope own = true)
    (hg : ∀ s H C cl fp, DG (blkX X scope s H C cl fp) (fun i => !(own.map (·.2)).contains i) tg tgt) (ht : ∀ s H C cl fp, DTs (blkX X scope s H C cl fp) W0 ifs tst) (hk : ∀ s H C cl fp, DE (blkX X scope s H C cl fp) W0 kx f) (he : ∀ s H C cl fp, DE (blkX X scope s H C cl fp) W0 vx fv) (hs : ∀ x, foldedSetIterable iter X.env x = pure x := by intro _; rfl) :
    DS X W fx (.Assign [.Name y py] (.DictComp kx vx [⟨tg, iter, ifs, 0⟩] scope pos) spos) (dSet i (dDc fi tgt tst f fv (own.map (·.2)))) := by
  obtain ⟨_, a, b⟩ := hi
  exact ⟨_, ps_setDc Z.calm Z.nd hy hyl hsw a (blkOk_by ok) (fun s H C cl fp => wpG_pg s H C cl fp) (fun s H C cl fp => wpT_pt s H C cl fp) (fun s H C cl fp => wpE_pe s H C cl fp) (fun s H C cl fp => wpE_pe s H C cl fp) hs, ss_set hfx (se_dc b (wpG_sg hg) (wpT_st ht) (wpE_se hk) (wpE_se he))⟩
end
/-! ### step by step -/
def dcO2 (own : List Nat) (o : Out (List Key × List D)) : Out D := match o with
  | .ok acc env2 => .ok (.odic acc.1 acc.2) (wipeE env2 own)
  | _ => .bad
def dcO (t : D → Env → Option Env) (p : Env → Out Bool) (g1 g2 : Env → Out D) (own : List Nat) (o : Out (List D)) : Out D := match o with
  | .ok items env1 => if plainL items = true then dcO2 own (dcL t p g1 g2 own items [] [] env1) else .bad
  | .err x env1 => .err x env1
  | .bad => .bad
theorem z_dc {fi : Env → Out (List D)} {t : D → Env → Option Env} {p : Env → Out Bool} {g1 g2 : Env → Out D} {own : List Nat} {env : Env} : dDc fi t p g1 g2 own env = dcO t p g1 g2 own (fi env) := by
  unfold dDc dcO dcO2
  cases fi env <;> rfl
theorem z_dco {t : D → Env → Option Env} {p : Env → Out Bool} {g1 g2 : Env → Out D} {own : List Nat} {items : List D} {e1 : Env} : dcO t p g1 g2 own (.ok items e1) = if plainL items = true then dcO2 own (dcL t p g1 g2 own items [] [] e1) else .bad := rfl
theorem z_dc2 {own : List Nat} {acc : List Key × List D} {e : Env} : dcO2 own (.ok acc e) = .ok (.odic acc.1 acc.2) (wipeE e own) := rfl
end Dn
/-! Dn49: zip of two lists. -/
namespace Dn
open PySem PySem.Spec L2
def zipD : List D → List D → List D
  | x :: xs, y :: ys => .tup [x, y] :: zipD xs ys
  | _, _ => []
theorem zipD_len : ∀ xs ys : List D, (zipD xs ys).length = min xs.length ys.length
  | [], ys => by simp [zipD]
  | x :: xs, [] => by simp [zipD]
  | x :: xs, y :: ys => by simp only [zipD, List.length_cons, zipD_len xs ys]; omega
theorem zipD_get : ∀ {xs ys : List D} {i : Nat} {d : D}, (zipD xs ys)[i]? = some d → ∃ x y, xs[i]? = some x ∧ ys[i]? = some y ∧ d = .tup [x, y]
  | [], ys, i, d, h => by simp [zipD] at h
  | x :: xs, [], i, d, h => by simp [zipD] at h
  | x :: xs, y :: ys, 0, d, h => by simp [zipD] at h; exact ⟨x, y, rfl, rfl, h.symm⟩
  | x :: xs, y :: ys, i + 1, d, h => by
    obtain ⟨a, b, h1, h2, h3⟩ := zipD_get (xs := xs) (ys := ys) (i := i) (by simpa [zipD] using h)
    exact ⟨a, b, h1, h2, h3⟩
def dZip (fs : Env → Out (List D)) : Env → Out (List D) := fun env => (fs env).bind fun ds env1 => match mvL ds env1 with
  | some ([d, e], env2) => match seqF (frz d), seqF (frz e) with
    | some xs, some ys => .ok (zipD xs ys) env2
    | _, _ => .bad
  | _ => .bad
section
variable {X : Cx} {W : WX}
theorem frozeL {K : PySem.W.Frag} {mg : Str → Option Value} {T : Addr → Prop} {env env2 : Env} {σ : St} {H H1 : Hp} {A A1 : Nat → List Addr} {B1 : List Addr} {vs : List V} {ds ds' : List D} (I : EnvOk K mg T env σ H A) {env1 : Env} (m1 : Moved A A1 B1 H H1) (I1 : EnvOk K mg (TB T B1) env1 σ H1 A1) (o1 : OwL K mg (SA A1 (TB T B1)) σ H1 B1 vs ds) (em : mvL ds env1 = some (ds', env2)) :
    ∃ A2, EnvOk K mg T env2 σ H1 A2 ∧ OwL K mg (SA A2 T) σ H1 [] vs (frzL ds') ∧ noBorL ds' = true ∧ Moved A A2 [] H H1 := by
  obtain ⟨A2, I2, o2, n2, s2⟩ := mvL_ok I1 o1 em
  refine ⟨A2, I2.drop, o2.frz (fun p z => z.imp .inl id) (fun p hp z => ?_), n2, ⟨m1.keep, fun p z => ?_⟩⟩
  · rcases z with z | ⟨i, z⟩
    · exact Moved.sepB I m1 p hp z
    · exact I2.sep i p z (.inr hp)
  · rcases z with z | ⟨i, z⟩
    · cases z
    · exact m1.new p (.inr ⟨i, s2 i p z⟩)
theorem seqF_own {K : PySem.W.Frag} {mg : Str → Option Value} {S : Addr → Prop} {σ : St} {H : Hp} {B : List Addr} {v : V} {c : D} {ds : List D} (o : Ow K mg S σ H B v c) (hc : seqF c = some ds) : ∃ a vs, v = .ref a ∧ SqL K H a vs ∧ OwL K mg S σ H [] vs ds := by
  cases o with
  | lst q l => cases hc; exact ⟨_, _, rfl, q.sq, l⟩
  | scr q l => cases hc; exact ⟨_, _, rfl, q.sq, l⟩
  | _ => cases hc
theorem nilB {K : PySem.W.Frag} {mg : Str → Option Value} {S : Addr → Prop} {σ : St} {H : Hp} {vs : List V} {ds : List D} {i : Nat} {x : D} (l : OwL K mg S σ H [] vs ds) (h : ds[i]? = some x) : ∃ v, vs[i]? = some v ∧ Ow K mg S σ H [] v x := by
  obtain ⟨v, B2, h2, h3, h4⟩ := l.get h
  have hB2 : B2 = [] := by
    cases B2 with
    | nil => rfl
    | cons p _ => cases h4 p List.mem_cons_self
  subst hB2
  exact ⟨v, h2, h3⟩
theorem itok_zip {K : PySem.W.Frag} {mg : Str → Option Value} {a b : Addr} {c e : D} {xs ys : List D} (hc : seqF c = some xs) (he : seqF e = some ys) : ItOk K mg (Itz K a b) (zipD xs ys) [.ref a, .ref b] [c, e] := by
  intro S σ H o hS i
  obtain ⟨v, u, B1, B2, e0, o1, o2, _, _⟩ := o.inv2
  cases e0
  obtain ⟨a', vs, e1, sq1, l1⟩ := seqF_own o1 hc
  cases e1
  obtain ⟨b', us, e2, sq2, l2⟩ := seqF_own o2 he
  cases e2
  refine ⟨fun h => ⟨_, _, sq1, sq2, ?_⟩, fun d e => ?_⟩
  · rw [zipD_len] at h
    rw [l1.length, l2.length]
    omega
  obtain ⟨x, y, h1, h2, rfl⟩ := zipD_get e
  obtain ⟨v, g1, g2⟩ := nilB l1 h1
  obtain ⟨u, g3, g4⟩ := nilB l2 h2
  refine ⟨⟨_, _, v, u, sq1, sq2, g1, g3⟩, fun z H' ⟨t, p, q, ez, nt, eH, f1, f2⟩ => ?_⟩
  subst ez eH
  have ep := (f1 _ sq1).symm.trans g1
  cases ep
  have eq := (f2 _ sq2).symm.trans g3
  cases eq
  have kp : ∀ b u', H b = some u' → upd H t (.tup [v, u]) b = some u' := fun b u' e => by rw [upd_ne (ne_of_none e nt)]; exact e
  refine ⟨kp, .tup (.inl ⟨fun z => hS t z nt, .inl upd_same⟩) ?_⟩
  have ch : ∀ {w : V} {d : D}, Ow K mg S σ H [] w d → Ow K mg S σ (upd H t (.tup [v, u])) [] w d := fun o => o.chg (Bp := fun _ => True) ⟨fun b u e _ => kp b u e, fun _ _ z => z⟩ (fun _ _ => trivial) fun _ _ e => .inr e
  exact OwL.cons (A := []) (B := []) (ch g2) (OwL.cons (A := []) (B := []) (ch g4) .nil (by simp)) (by simp)
theorem si_zip {ta : TA} {fs : Env → Out (List D)} (hf : SL X W ta fs) : SI X W (iZip X.K ta) (dZip fs) := fun T env σ H A R I h => by
  refine hf T env σ H A _ I ?_
  unfold dZip at h
  cases e : fs env with
  | bad => rw [e] at h; exact h
  | err x env' => rw [e] at h; exact h
  | ok ds env1 =>
    rw [e, Out.bind_ok] at h
    intro vs H1 A1 B1 m1 I1 o1
    split at h
    · rename_i d e' env2 em
      split at h
      · rename_i xs ys e1 e2
        obtain ⟨hp, h⟩ := h
        obtain ⟨A2, I2, o2, n2, m2⟩ := frozeL I m1 I1 o1 em
        have o2' : OwL X.K X.mg (SA A2 T) σ H1 [] vs [frz d, frz e'] := o2
        obtain ⟨v, u, Ba, Bb, rfl, oa, ob, _, _⟩ := o2'.inv2
        obtain ⟨a, ws, rfl, sq1, _⟩ := seqF_own oa e1
        obtain ⟨b, us, rfl, sq2, _⟩ := seqF_own ob e2
        have nf : noBorL [frz d, frz e'] = true := by
          simp only [noBorL, Bool.and_eq_true] at n2 ⊢
          exact ⟨plain_noBor _ (plain_frz _ n2.1), plain_noBor _ (plain_frz _ n2.2.1), trivial⟩
        exact ⟨a, b, ws, us, rfl, sq1, sq2, h _ H1 A2 _ _ m2 I2 o2' nf (itok_zip e1 e2)⟩
      · exact h.elim
    · exact h.elim
theorem di_zip {e e2 : Expr} {p pos tpos : Pos} {elts : List Expr} {kk : Nat} {fs : Env → Out (List D)} (hg : Gl X "zip") (hm : X.mg "zip" = none) (ha : DA X W [e, e2] fs)
    (hs : starEach [e, e2] X.env = (false, eval e X.env) :: starEach [e2] X.env := by rfl) (hpl : (backTo pos (starEach [e2] X.env)).any (·.1) = false := by rfl) :
    DI X W (.Tuple elts kk tpos) (.Call (.Name "zip" p) [e, e2] [] pos) (dZip fs) := let ⟨_, a, b⟩ := ha; ⟨_, pi_zip hg hm a hs hpl, si_zip b⟩
end
theorem dZip_ok {fs : Env → Out (List D)} {env env1 env2 : Env} {ds : List D} {d e : D} {xs ys : List D} (h1 : fs env = .ok ds env1) (h2 : mvL ds env1 = some ([d, e], env2)) (h3 : seqF (frz d) = some xs) (h4 : seqF (frz e) = some ys) : dZip fs env = .ok (zipD xs ys) env2 := by
  unfold dZip
  rw [h1, Out.bind_ok, h2]
  simp only [h3, h4]
end Dn
/-! Dn50: sorted of a tuple of data. -/
namespace Dn
open PySem PySem.Spec L2
open PySem.W (EachIs dataLe AllAlike Sortable alike)
section
open PySem.W PyProof.Rows PySem.Calls
variable {prog : Program} {w : World} {A : Around} {E : Value → Shared → Prop} {s : Shared}
theorem collect_tup {l : Addr} {vs : List Value} {Q : List Value → Shared → Prop} (hl : s.heap.IsTuple l vs.toArray)
    (h : Q vs { s with heap := (s.heap.push (seqObj "list" #[] 0)).update s.heap.objs.size (Obj.mapSeq (· ++ vs.toArray)) }) (hsz : vs.length ≤ sizeLine) :
    wpAny (model prog w) A (collect (.ref l)) Q E s := by
  obtain ⟨o, ho, hc, n, hd⟩ := id hl
  unfold collect
  refine wpAny_bind (wpAny_runValue (codeAny_builtin entry_proto_collect' ?_))
  show wpAny _ _ (do again (.builtin "list.__iadd__" ⟨[← newList [], .ref l], []⟩)) _ _ s
  refine wpAny_bind (wpAny_newList (wpAny_pure ⟨Code.quiet_builtin _ (by decide +kernel), codeAny_builtin entry_list_iadd' ?_⟩))
  show wpAny _ _ (Builtin.List.listExtendWith (.ref s.heap.objs.size) (.ref l) (.ref s.heap.objs.size)) _ _ { s with heap := s.heap.push (seqObj "list" #[] 0) }
  unfold Builtin.List.listExtendWith
  have ho' : (s.heap.push (seqObj "list" #[] 0)).get? l = some o := Heap.get?_push_of_some _ ho
  refine wpAny_bind (wpAny_typeOf (T := "tuple") ⟨o, ho', hc⟩ ?_)
  have ht : (Value.type "tuple" == Value.type "tuple") = true := by rfl
  rw [if_pos (by rw [ht]; simp)]
  refine wpAny_bind (listItems_at ho' hd ?_)
  refine wpAny_bind (listItems_at (xs := #[]) (n := 0) (Heap.get?_push_size _ rfl) rfl ?_)
  rw [if_neg (by simp)]
  refine wpAny_bind (listUpdate_at (xs := #[]) (n := 0) (Heap.get?_push_size _ rfl) rfl ?_ (Nat.zero_le _) (by show (#[] ++ vs.toArray).size ≤ sizeLine + 1; simp only [Array.size_append, List.size_toArray, List.length_nil]; omega))
  refine wpAny_pure ?_
  show wpAny (model prog w) A (do
      let o ← load s.heap.objs.size
      match o.data with
      | .seq xs _ => pure xs.toList
      | _ => unsupported "internal:collect") Q E { s with heap := (s.heap.push (seqObj "list" #[] 0)).update s.heap.objs.size (Obj.mapSeq (· ++ vs.toArray)) }
  refine wpAny_bind (wpAny_load (get?_update_seq (Heap.get?_push_size _ rfl) _) ?_)
  show wpAny _ _ (pure ((#[] : Array Value) ++ vs.toArray).toList) Q E _
  rw [show ((#[] : Array Value) ++ vs.toArray).toList = vs by simp]
  exact wpAny_pure h
theorem sorted_of_tup {l : Addr} {vs : List Value} {kw : List (Str × Value)} {Q : Value → Shared → Prop} (hl : s.heap.IsTuple l vs.toArray) (hL : vs.length ≤ sizeLine) (ha1 : argsOk "sorted" ⟨[.ref l], kw⟩) (ha2 : ∀ x, argsOk "list.sort" ⟨[.ref x], kw⟩)
    (body : ∀ E' : Value → Shared → Prop, wpAny (model prog w) A.in1.in1 (Builtin.«list.sort» ⟨[.ref (s.heap.objs.size + 1)], kw⟩) (fun f s' => f = .done (.ret .none) ∧ Q (.ref (s.heap.objs.size + 1)) s') E' { s with heap := copyHeap s.heap vs }) :
    wpAny (model prog w) A (call (.builtin "sorted") [.ref l] kw) Q E s := by
  refine call_function_entry_kw kind_sorted plain_sorted entry_sorted ha1 ?_
  unfold Builtin.«sorted»
  refine wpAny_bind (m := checkCount "sorted" 1 1 _) (wpAny_pure ?_)
  refine wpAny_bind (collect_tup hl ?_ hL)
  refine wpAny_bind (wpAny_newList ?_ hL)
  have hsz : ((s.heap.push (seqObj "list" #[] 0)).update s.heap.objs.size (Obj.mapSeq (· ++ vs.toArray))).objs.size = s.heap.objs.size + 1 := by
    rw [Heap.size_update, size_push']
  show wpAny _ _ _ _ _ { s with heap := copyHeap s.heap vs }
  rw [hsz]
  refine wpAny_bind (wpAny_holding (wpAny_call_entry_kw slot_list_sort ⟨_, copyHeap_at s.heap vs, rfl⟩ entry_list_sort ?body (ha2 _)))
  case body =>
    show wpAny (model prog w) A.in1.in1 (Builtin.«list.sort» ⟨[.ref (s.heap.objs.size + 1)], kw⟩) _ _ _
    refine wpAny_mono (body _) (fun f s' hf => ?_) fun _ _ e => e
    obtain ⟨rfl, hq⟩ := hf
    exact ⟨_, rfl, wpAny_pure ⟨_, rfl, hq⟩⟩
variable {β : Type} {R : Value → β → Prop} {enc : β → PyData} {vs : List Value} {bs : List β}
theorem sorted_dataT {l : Addr} {Q : Value → Shared → Prop} (hl : s.heap.IsTuple l vs.toArray) (e : EachIs R vs bs) (er : EachIs (fun v b => ∃ as, Reads s.heap v (enc b) as) vs bs) (hal : AllAlike (bs.map enc)) (hk : Sortable (bs.map enc)) (hL : bs.length ≤ sizeLine)
    (hu : ∀ b, b ∈ bs → A.units + 2 + (enc b).depth < cLine) (h : ∀ out, out.length = bs.length → EachIs R out (bs.mergeSort (dataLe false enc)) → Q (.ref (s.heap.objs.size + 1)) { s with heap := sortedAll s.heap vs (List.toArray out) }) :
    wpAny (model prog w) A (call (.builtin "sorted") [.ref l]) Q E s := by
  have er' : EachIs (fun v b => ∃ as, Reads (sortingHeap (copyHeap s.heap vs) (s.heap.objs.size + 1) vs) v (enc b) as) vs bs := er.mono fun _ _ ⟨as, r⟩ => ⟨as, PyProof.Rows.Reads.keeps (fun _ _ => sorting_copy_old) r⟩
  have hLv : vs.length ≤ sizeLine := by rw [e.length]; exact hL
  have S := SortsAt.data (prog := prog) (w := w) (A := A.in1.in1) (s := { s with heap := sortingHeap (copyHeap s.heap vs) (s.heap.objs.size + 1) vs }) (each_map (R := fun v d => ∃ as, Reads (sortingHeap (copyHeap s.heap vs) (s.heap.objs.size + 1) vs) v d as) enc er') hal hk (bound_map hu)
  exact sorted_of_tup hl hLv (args_sorted1 _) (fun _ => args_list_sort _) fun _ => list_sort_vals (s := { s with heap := copyHeap s.heap vs }) (copyHeap_at s.heap vs) S hLv ⟨rfl, h _ (by rw [sortVals_length false rfl]; exact e.length) (sortVals_data false e er' hal)⟩
end
def rSortDA (K : PySem.W.Frag) : List V → Hp → VK → Prop := fun vs H Q => ∃ (a : Addr) (bs : List (V × D)), vs = [.ref a] ∧ (SqL K H a (bs.map (·.1)) ∨ SqT K H a (bs.map (·.1))) ∧ (∀ b ∈ bs, Dp K H b.1 (py b.2)) ∧ AllAlike (bs.map fun b => py b.2) ∧ Sortable (bs.map fun b => py b.2) ∧ (∀ b ∈ bs, (py b.2).depth ≤ 50) ∧
  ∀ p, H p = none → Q (.ref p) (upd H p (.lst ((bs.mergeSort leD).map (·.1))))
section
variable {X : Cx} {W : WX} {k : Nat}
theorem call_sortDA (Z : Sit X W k) : CallR X (.builtin "sorted") (rSortDA X.K) := by
  intro pins s σ H vs us Q I r h
  obtain ⟨a, bs, rfl, hs, dp, al, so, de, q⟩ := h
  rcases hs with hs | hs
  · exact call_sortD Z pins s σ H _ us Q I r ⟨a, bs, rfl, hs, dp, al, so, de, q⟩
  obtain ⟨its, rv, hl, hz⟩ := I.tuple hs
  rw [Vals.ref1 r]
  have un := Z.room.un
  have ea := each_of_vals rv
  refine sorted_dataT (R := fun v (b : V × D) => RelV b.1 v) (enc := fun b : V × D => py b.2) (bs := bs) hl ea (each_and ea fun b hb v rv' => Dp.reads I _ _ _ (dp b hb) rv') al so (by rw [List.length_map] at hz; exact hz) (fun b hb => by have := de b hb; show X.A.units + 2 + (py b.2).depth < cLine; omega) fun out ho eo => ?_
  obtain ⟨ep, he'⟩ := PyProof.Rows.sortedAll_at s.heap its out.toArray
  have hlen : ((bs.mergeSort leD).map (·.1)).length ≤ sizeLine := by
    rw [List.length_map, List.length_mergeSort]
    rw [List.length_map] at hz
    exact hz
  exact ⟨.ref _, upd H (s.heap.objs.size + 1) (.lst ((bs.mergeSort leD).map (·.1))), I.laid (t' := s.toks) (fun _ _ => PyProof.Rows.sortedAll_old) (Nat.le_succ _) ⟨hlen, out, ep, vals_of_each eo, he'⟩, rfl, q _ (I.hok.fresh (Nat.le_succ _))⟩
def fSortedA (env : Env) : List D → Option D
  | [d] => ((rd env d).bind seqA).bind fun ds => if sortOk ds = true then some (.own (srtD ds)) else none
  | _ => none
theorem b_sortedA (Z : Sit X W k) : BiR X (.builtin "sorted") fSortedA := ⟨_, call_sortDA Z, fun T env σ H A B vs ds d Q I o h q => by
  unfold fSortedA at h
  split at h
  · obtain ⟨es, h1, h4⟩ := Option.bind_eq_some_iff.mp h
    obtain ⟨c, h2, h3⟩ := Option.bind_eq_some_iff.mp h1
    split at h4
    · rename_i ok
      cases h4
      unfold sortOk at ok
      simp only [Bool.and_eq_true] at ok
      obtain ⟨hp, hc, ha, hs, hd⟩ := ok
      obtain ⟨v, B1, rfl, o1, _⟩ := o.inv1
      obtain ⟨B2, o2⟩ := I.rd o1 h2
      obtain ⟨a, ws, B3, rfl, sq, ol⟩ := o2.seqA h3
      obtain ⟨hl, hb⟩ := ol.pairs hp
      obtain ⟨z1, z2⟩ := zip_map1 hl
      have hmem : ∀ b ∈ ws.zip es, b.2 ∈ es := fun b hb' => by rw [← z2]; exact List.mem_map.mpr ⟨b, hb', rfl⟩
      have hnb : ∀ b ∈ ws.zip es, noBor b.2 = true := fun b hb' => by
        obtain ⟨i, hi⟩ := List.getElem?_of_mem (hmem b hb')
        exact plain_noBor _ (plainL_get hp hi)
      refine ⟨a, ws.zip es, rfl, by rw [z1]; exact sq, fun b hb' => (hb b hb').dp0 (hnb b hb') (canLay_mem hc _ (hmem b hb')), ?_, ?_, fun b hb' => ?_, fun l nl => ?_⟩
      · intro d1 m1 d2 m2
        obtain ⟨b1, n1, rfl⟩ := List.mem_map.mp m1
        obtain ⟨b2, n2, rfl⟩ := List.mem_map.mp m2
        unfold alikeL at ha
        exact List.all_eq_true.mp (List.all_eq_true.mp ha _ (hmem b1 n1)) _ (hmem b2 n2)
      · rcases Bool.or_eq_true_iff.mp hs with hs | hs
        · refine .inl fun d1 m1 => ?_
          obtain ⟨b1, n1, rfl⟩ := List.mem_map.mp m1
          have := List.all_eq_true.mp hs _ (hmem b1 n1)
          generalize py b1.2 = z at this
          unfold tupNE at this
          split at this
          · exact ⟨_, _, rfl⟩
          · cases this
        · refine .inr fun d1 m1 => ?_
          obtain ⟨b1, n1, rfl⟩ := List.mem_map.mp m1
          have := List.all_eq_true.mp hs _ (hmem b1 n1)
          show (py b1.2) ≠ _ ∧ ∀ xs, py b1.2 ≠ _
          generalize py b1.2 = z at this
          exact ⟨(fun e => by subst e; cases this), (fun xs e => by subst e; cases this)⟩
      · exact of_decide_eq_true (List.all_eq_true.mp hd _ (hmem b hb'))
      · have hq : ∀ b ∈ (ws.zip es).mergeSort leD, Ow X.K X.mg _ σ H [] b.1 b.2 := fun b hb' => hb b (List.mem_mergeSort.mp hb')
        have on := OwL.of_pairs _ hq
        have e2 : ((ws.zip es).mergeSort leD).map (·.2) = srtD es := by
          unfold srtD
          rw [PySem.W.sort_maps (r := leD) (s := leP) (fun b : V × D => b.2) (l := ws.zip es) (fun _ _ _ _ => rfl), z2]
        rw [e2] at on
        refine q _ _ [l] (fun b u e => by rw [upd_ne (ne_of_none e nl)]; exact e) (by simp [nl]) ?_
        have on' := on.weak (S' := SA A (TB T [])) fun p z => z.imp (fun z => z.imp id fun z => by cases z) id
        exact .own upd_same (by simp) (on'.anew nl)
    · cases h4
  · cases h⟩
end
@[simp] theorem z_sortedA (env : Env) (d : D) : fSortedA env [d] = ((rd env d).bind seqA).bind fun ds => if sortOk ds = true then some (.own (srtD ds)) else none := (Eq.refl _).trans (Eq.refl _)
end Dn
/-! Dn51: lists lent for a while; a display whose items are frozen. -/
namespace Dn
open PySem PySem.Spec L2
def dropLst : Option D → Option D
  | some d => if noLst d = true then some d else none
  | none => none
def thawE (env : Env) (i : Nat) (xs : List D) : Env := (env.map dropLst).set i (some (.own xs))
def dThaw (i : Nat) (f : Env → SOut) : Env → SOut := fun env => match ownAt env i with
  | some xs => if plainL xs = true ∧ noLstL xs = true then match f (frzAt env i) with
      | .nx env2 => .nx (thawE env2 i xs)
      | o => o
    else .bad
  | none => .bad
section
variable {X : Cx} {W : WX} {fx : Nat → Bool}
theorem ss_thaw (i : Nat) {t : TS} {f : Env → SOut} (hf : SS X W (fun j => fx j || j == i) t f) : SS X W fx t (dThaw i f) := fun T env σ H A N I h => by
  unfold dThaw at h
  cases ex : ownAt env i with
  | none => rw [ex] at h; exact h.elim
  | some xs =>
    rw [ex] at h
    simp only at h
    split at h
    · rename_i hp
      obtain ⟨l, vs, C, si, hl, hA, hlC, ol⟩ := I.ownAt ex
      have eC : C = [] := ol.bare hp.1
      subst eC
      obtain ⟨A1, I1, s1, f1, k1⟩ := I.frzAt i
      have nilI : A1 i = [] := (f1 _ (ownAt_some ex)).2
      have nA1 : ∀ j, l ∉ A1 j := fun j z => by
        by_cases hj : j = i
        · subst hj; rw [nilI] at z; cases z
        · exact I.dis i j l (Ne.symm hj) (by rw [hA]; exact List.mem_cons_self) (s1 j l z)
      have mono : ∀ {A' : Nat → List Addr} {B : List Addr} {H' : Hp}, Moved A1 A' B H H' → Moved A A' B H H' := fun m => ⟨fun b o e nb => m.keep b o e fun j z => nb j (s1 j b z), fun p z => (m.new p z).imp (fun ⟨j, z⟩ => ⟨j, s1 j p z⟩) id⟩
      have fixm : ∀ {σ' : St}, Fix (fun j => fx j || j == i) σ σ' → Fix fx σ σ' := fun k => ⟨k.1, fun j hj => k.2 j (by simp [hj])⟩
      refine hf T (frzAt env i) σ H A1 N I1 ?_
      cases eo : f (frzAt env i) with
      | bad => rw [eo] at h; exact h.elim
      | bk env2 => rw [eo] at h; exact fun σ' H' A' m I2 k => h σ' H' A' (mono m) I2 (fixm k)
      | ct env2 => rw [eo] at h; exact fun σ' H' A' m I2 k => h σ' H' A' (mono m) I2 (fixm k)
      | rt d env2 => rw [eo] at h; exact fun v σ' H' A' B m I2 o nb k => h v σ' H' A' B (mono m) I2 o nb (fixm k)
      | err x env2 => rw [eo] at h; exact fun σ' H' A' m I2 k => h σ' H' A' (mono m) I2 (fixm k)
      | nx env2 =>
        rw [eo] at h
        intro σ' H' A' m I2 k
        have hl' : H' l = some (.lst vs) := m.keep l _ hl nA1
        have nA' : ∀ j, l ∉ A' j := fun j z => by
          rcases m.new l (.inr ⟨j, z⟩) with ⟨q, z⟩ | z
          · exact nA1 q z
          · rw [hl] at z; cases z
        have hi : i < env2.length := by
          rw [I2.len, k.1]
          exact (List.getElem?_eq_some_iff.mp si).1
        have at2 : ∀ (j : Nat) (d : D), j ≠ i → (thawE env2 i xs)[j]? = some (some d) → env2[j]? = some (some d) ∧ noLst d = true := fun j d hj e => by
          unfold thawE at e
          rw [List.getElem?_set_ne (Ne.symm hj), List.getElem?_map] at e
          obtain ⟨o, e1, e2⟩ := Option.map_eq_some_iff.mp e
          cases o with
          | none => cases e2
          | some d' =>
            have e3 : (if noLst d' = true then some d' else none) = some d := e2
            by_cases hn : noLst d' = true
            · rw [if_pos hn] at e3
              cases e3
              exact ⟨e1, hn⟩
            · rw [if_neg hn] at e3
              cases e3
        -- what each slot owns
        let A2 : Nat → List Addr := fun j => if j = i then [l] else match (thawE env2 i xs)[j]? with
          | some (some _) => A' j
          | _ => []
        have A2i : A2 i = [l] := if_pos rfl
        have A2j : ∀ j, j ≠ i → ∀ p, p ∈ A2 j → p ∈ A' j ∧ ∃ d, (thawE env2 i xs)[j]? = some (some d) := fun j hj p hp => by
          have e : A2 j = match (thawE env2 i xs)[j]? with
            | some (some _) => A' j
            | _ => [] := if_neg hj
          rw [e] at hp
          split at hp
          · rename_i d0 e0; exact ⟨hp, d0, e0⟩
          · cases hp
        have A2of : ∀ j p, p ∈ A2 j → p = l ∨ p ∈ A' j := fun j p hp => by
          by_cases hj : j = i
          · subst hj; rw [A2i] at hp; exact .inl (List.mem_singleton.mp hp)
          · exact .inr (A2j j hj p hp).1
        have m2 : Moved A A2 [] H H' := ⟨(mono m).keep, fun p z => by
          rcases z with z | ⟨j, z⟩
          · cases z
          · rcases A2of j p z with z | z
            · subst z; exact .inl ⟨i, by rw [hA]; exact List.mem_cons_self⟩
            · exact (mono m).new p (.inr ⟨j, z⟩)⟩
        refine h σ' H' A2 m2 ⟨?_, fun j d e => ?_, fun j hn => ?_, fun j q p hjq hp hq => ?_, fun j p hp => ?_, I2.tt⟩ (fixm k)
        · unfold thawE
          rw [List.length_set, List.length_map]
          exact I2.len
        · by_cases hj : j = i
          · subst hj
            have ed : d = .own xs := by
              unfold thawE at e
              rw [List.getElem?_set_self (by rw [List.length_map]; exact hi)] at e
              exact (Option.some.inj (Option.some.inj e)).symm
            subst ed
            rw [A2i]
            have nb : noBorL xs = true := plainL_noBor _ hp.1
            refine ⟨by simpa [noBor] using nb, .ref l, by rw [k.2 j (by simp)]; exact si, .own hl' (by simp) (ol.moved nb m2)⟩
          · obtain ⟨e1, e2⟩ := at2 j d hj e
            obtain ⟨n, v, s, o⟩ := I2.slot j d e1
            have ej : A2 j = A' j := by
              show (if j = i then [l] else _) = _
              rw [if_neg hj, e]
            rw [ej]
            refine ⟨n, v, s, (o.apart (Sq := fun p => p = l) (fun q z => .inl ⟨vs, by rw [z]; exact hl'⟩) e2).weak fun p z => ?_⟩
            rcases z with z | ⟨q, z⟩
            · exact .inl (.inl z)
            · rcases A2of q p z with z | z
              · exact .inr z
              · exact .inl (.inr ⟨q, z⟩)
        · by_cases hj : j = i
          · subst hj
            refine absurd ?_ (hn (.own xs))
            unfold thawE
            rw [List.getElem?_set_self (by rw [List.length_map]; exact hi)]
          · show (if j = i then [l] else _) = _
            rw [if_neg hj]
            split
            · rename_i d0 e0; exact absurd e0 (hn d0)
            · rfl
        · by_cases hj : j = i
          · subst hj
            rw [A2i, List.mem_singleton] at hp
            subst hp
            exact nA' q (A2j q (Ne.symm hjq) _ hq).1
          · by_cases hq2 : q = i
            · subst hq2
              rw [A2i, List.mem_singleton] at hq
              subst hq
              exact nA' j (A2j j hj _ hp).1
            · exact I2.dis j q p hjq (A2j j hj p hp).1 (A2j q hq2 p hq).1
        · rcases A2of j p hp with z | z
          · subst z; exact I.sep i p (by rw [hA]; exact List.mem_cons_self)
          · exact I2.sep j p z
    · exact h.elim
theorem ds_thaw (i : Nat) {st : Stmt} {f : Env → SOut} (hf : DS X W (fun j => fx j || j == i) st f) : DS X W fx st (dThaw i f) := let ⟨_, a, b⟩ := hf; ⟨_, a, ss_thaw i b⟩
/-- the items of a new list are frozen -/
def fzI (d : D) (env : Env) : Out D := match d with
  | .own xs => if noBorL xs = true then .ok (.own (frzL xs)) env else .bad
  | _ => .bad
def dFz (f : Env → Out D) : Env → Out D := fun env => (f env).bind fzI
theorem se_fz {t : TE} {f : Env → Out D} (hf : SE X W t f) : SE X W t (dFz f) := fun T env σ H A Q I h => by
  refine hf T env σ H A Q I ?_
  unfold dFz at h
  cases e : f env with
  | bad => rw [e] at h; exact h
  | err x env' => rw [e] at h; exact h
  | ok d env1 =>
    rw [e, Out.bind_ok] at h
    intro v H1 A1 B1 m1 I1 o1
    unfold fzI at h
    split at h
    · rename_i xs
      split at h
      · rename_i hn
        cases o1 with
        | own e0 n0 l0 =>
          rename_i a A0 vs
          refine h (.ref a) H1 A1 [a] (m1.fewer fun p z => .inl (by rw [List.mem_singleton.mp z]; exact List.mem_cons_self)) (I1.weak fun p z => z.imp id fun z => by rw [List.mem_singleton.mp z]; exact List.mem_cons_self) (.own e0 (by simp) (l0.frz (fun p z => z.imp (fun z => z.imp id fun z => by rw [List.mem_singleton.mp z]; exact List.mem_cons_self) id) fun p hp z => ?_))
          rcases z with (z | z) | ⟨j, z⟩
          · exact Moved.sepB I m1 p (List.mem_cons_of_mem _ hp) z
          · rw [List.mem_singleton.mp z] at hp; exact n0 hp
          · exact I1.sep j p z (.inr (List.mem_cons_of_mem _ hp))
      · exact h.elim
    · exact h.elim
theorem de_fz {e : Expr} {f : Env → Out D} (hf : DE X W e f) : DE X W e (dFz f) := let ⟨_, a, b⟩ := hf; ⟨_, a, se_fz b⟩
end
theorem dThaw_nx {i : Nat} {f : Env → SOut} {env env2 : Env} {xs : List D} (h1 : ownAt env i = some xs) (h2 : plainL xs = true) (h3 : noLstL xs = true) (h4 : f (frzAt env i) = .nx env2) : dThaw i f env = .nx (thawE env2 i xs) := by
  unfold dThaw
  rw [h1]
  simp only
  rw [if_pos ⟨h2, h3⟩, h4]
def fzI2 (o : Out D) : Out D := o.bind fzI
@[simp] theorem z_fz (f : Env → Out D) (env : Env) : dFz f env = fzI2 (f env) := (Eq.refl _).trans (Eq.refl _)
@[simp] theorem z_fz1 (xs : List D) (e1 : Env) : fzI2 (.ok (.own xs) e1) = if noBorL xs = true then .ok (.own (frzL xs)) e1 else .bad := (Eq.refl _).trans (Eq.refl _)
end Dn
namespace Kx
open PySem PySem.Spec L2 Dn
def topS (i : Nat) : Stmt := PySem.Challenge.pw_hitlog_k03_replays.main.body.getD i (.Pass ⟨0, 0, 0, 0⟩)
abbrev s_is_integer : Stmt := topS 11
abbrev s_is_page : Stmt := topS 12
abbrev s_is_shelf : Stmt := topS 13
abbrev s_is_event : Stmt := topS 14
abbrev s_is_log : Stmt := topS 15
abbrev s_check_shelf : Stmt := topS 16
abbrev s_check_log : Stmt := topS 17
abbrev s_count_sizes : Stmt := topS 18
abbrev s_evicting : Stmt := topS 19
abbrev s_next_content : Stmt := topS 20
abbrev s_replayed : Stmt := topS 21
abbrev s_replay : Stmt := topS 22
abbrev s_l_source : Stmt := topS 24
abbrev s_l_draw : Stmt := topS 25
abbrev s_l_pages : Stmt := topS 26
abbrev s_l_run : Stmt := topS 27
abbrev s_l_setup : Stmt := topS 28
abbrev s_l_followed : Stmt := topS 29
abbrev s_l_told : Stmt := topS 30
abbrev s_l_changed : Stmt := topS 31
abbrev s_l_bent : Stmt := topS 32
abbrev s_law : Stmt := topS 33
structure Fx (K : PySem.W.Frag) (mg : Str → Option Value) : Prop where
  d_is_integer : DefAt K mg "is_integer" s_is_integer [V.non] ["value", "low"]
  d_is_page : DefAt K mg "is_page" s_is_page [] ["value"]
  d_is_shelf : DefAt K mg "is_shelf" s_is_shelf [] ["value"]
  d_is_event : DefAt K mg "is_event" s_is_event [] ["value"]
  d_is_log : DefAt K mg "is_log" s_is_log [] ["value"]
  d_check_shelf : DefAt K mg "check_shelf" s_check_shelf [] ["capacity", "start"]
  d_check_log : DefAt K mg "check_log" s_check_log [] ["capacity", "start", "log"]
  d_count_sizes : DefAt K mg "count_sizes" s_count_sizes [] ["capacity", "start", "log"]
  d_evicting : DefAt K mg "evicting" s_evicting [] ["capacity", "start", "log"]
  d_next_content : DefAt K mg "next_content" s_next_content [] ["content", "event", "out"]
  d_replayed : DefAt K mg "replayed" s_replayed [] ["capacity", "start", "log", "evicted"]
  d_replay : DefAt K mg "replay" s_replay [] ["capacity", "start", "log", "evicted"]
  d_l_source : DefAt K mg "_law_source" s_l_source [] ["script", "k"]
  d_l_draw : DefAt K mg "_law_draw" s_l_draw [] ["source", "bound"]
  d_l_pages : DefAt K mg "_law_pages" s_l_pages [] ["source", "count"]
  d_l_run : DefAt K mg "_law_run" s_l_run [] ["source", "room", "initial", "pages", "size"]
  d_l_setup : DefAt K mg "_law_setup" s_l_setup [] ["source", "most", "size"]
  d_l_followed : DefAt K mg "_law_followed" s_l_followed [] ["room", "initial", "happened", "gone"]
  d_l_told : DefAt K mg "_law_told" s_l_told [] ["room", "initial", "happened", "gone", "named"]
  d_l_changed : DefAt K mg "_law_changed" s_l_changed [] ["source", "gone", "pages"]
  d_l_bent : DefAt K mg "_law_bent" s_l_bent [] ["source", "happened"]
  d_law : DefAt K mg "law" s_law [] ["script"]
  n_abs : mg "abs" = none
  n_all : mg "all" = none
  n_bool : mg "bool" = none
  n_enumerate : mg "enumerate" = none
  n_int : mg "int" = none
  n_isinstance : mg "isinstance" = none
  n_len : mg "len" = none
  n_list : mg "list" = none
  n_max : mg "max" = none
  n_min : mg "min" = none
  n_range : mg "range" = none
  n_repr : mg "repr" = none
  n_set : mg "set" = none
  n_sorted : mg "sorted" = none
  n_str : mg "str" = none
  n_tuple : mg "tuple" = none
  n_zip : mg "zip" = none
  v_HIT : ∃ t, mg "HIT" = some (.str "hit" t)
  v_LETTERS : ∃ t, mg "LETTERS" = some (.str "abcdefghijklmnopqrstuvwxyz" t)
  v_MISS : ∃ t, mg "MISS" = some (.str "miss" t)
  v_PAGE_LENGTH : ∃ t, mg "PAGE_LENGTH" = some (.int 4 t)
  e_InvalidCapacity : ExcD K mg "InvalidCapacity"
  e_InvalidHistory : ExcD K mg "InvalidHistory"
  e_InvalidLog : ExcD K mg "InvalidLog"
  e_InvalidShelf : ExcD K mg "InvalidShelf"
  s_InvalidCapacity_InvalidHistory : SubD K mg "InvalidCapacity" "InvalidHistory" false
  s_InvalidHistory_InvalidHistory : SubD K mg "InvalidHistory" "InvalidHistory" true
  s_InvalidLog_InvalidHistory : SubD K mg "InvalidLog" "InvalidHistory" false
  s_InvalidShelf_InvalidHistory : SubD K mg "InvalidShelf" "InvalidHistory" false
section
variable {P : Program} {w : World} {K : PySem.W.Frag} {mg : Str → Option Value} {base : Heap}
theorem sc_is_integer : FnScope ["value", "low"] ["value", "low"] (defScope s_is_integer) := ⟨rfl, rfl, rfl, by decide +kernel, rfl, by decide +kernel, by decide +kernel⟩
def g_is_integer : Dn.Env → SOut :=
    (dSeq (dIfS (dOr (dNot (dTru (dOn (fIsi "int") (dVar 0)))) (dTru (dOn (fIsi "bool") (dVar 0)))) (dRet (dC (.bl false))) dSkip)
    (dRet (dOrV (dOp fIsN (dCons (dVar 1) (dCons (dC .non) dNil))) (dOp fGe (dCons (dVar 0) (dCons (dVar 1) dNil))))))
def f_is_integer : List D → Out D := fnD 2 2 (fun i => [0, 1].contains i) g_is_integer
theorem c_is_integer (Y : Fx K mg) : Cal P w K mg base 1 2 "is_integer" s_is_integer [V.non] ["value", "low"] f_is_integer := cal_at Y.d_is_integer sc_is_integer rfl rfl fun f0 cdv0 A0 outer0 s00 H00 E0 Z =>
    (dss_cons (ds_if (dw_or (dt_not (dt_tru (de_isi (T := "int") (by decide) (by decide +kernel) (by rfl) Y.n_isinstance (by rfl) Y.n_int (de_var 0)))) (dw_or1 (dt_tru (de_isi (T := "bool") (by decide) (by decide +kernel) (by rfl) Y.n_isinstance (by rfl) Y.n_bool (de_var 0))))).t (dss_one (ds_ret de_bl)) dss_nil)
    (dss_one (ds_ret (de_or (de_cmp c_isN (de_var 1) de_non (nomark _)) (de_one (de_cmp c_ge (de_var 0) (de_var 1) (nomark _)))))))
theorem sc_is_page : FnScope ["value", "letter"] ["value"] (defScope s_is_page) := ⟨rfl, rfl, rfl, by decide +kernel, rfl, by decide +kernel, by decide +kernel⟩
def g_is_page : Dn.Env → SOut :=
    (dSeq (dIfS (dOr (dNot (dTru (dOn (fIsi "str") (dVar 0)))) (dNot (dB (dChn fLe fLe (dC (.int 1)) (dOp fLen (dCons (dVar 0) dNil)) (dC (.int 4)))))) (dRet (dC (.bl false))) dSkip)
    (dRet (dOp fAll (dCons (dLc (dItems (dVar 0)) (gN 1) (fun env => .ok true env) (dOp fIn (dCons (dVar 1) (dCons (dC (.str "abcdefghijklmnopqrstuvwxyz")) dNil))) [1]) dNil))))
def f_is_page : List D → Out D := fnD 2 1 (fun i => [0].contains i) g_is_page
theorem c_is_page (Y : Fx K mg) : Cal P w K mg base 1 1 "is_page" s_is_page [] ["value"] f_is_page := cal_at Y.d_is_page sc_is_page rfl rfl fun f0 cdv0 A0 outer0 s00 H00 E0 Z =>
    (dss_cons (ds_if (dw_or (dt_not (dt_tru (de_isi (T := "str") (by decide) (by decide +kernel) (by rfl) Y.n_isinstance (by rfl) Y.n_str (de_var 0)))) (dw_or1 (dt_not (dt_chn c_le c_le de_int (de_bi b_len PySem.boot_len (by rfl) Y.n_len (da_cons (de_var 0) da_nil)) (de_gint Y.v_PAGE_LENGTH))))).t (dss_one (ds_ret de_bl)) dss_nil)
    (dss_one (ds_ret (de_bi (b_all Z.calm) PyProof.Rows.boot_all (by rfl) Y.n_all (da_cons (de_lc [("letter", 1)] Z (di_any (de_var 0)) (by rfl) (fun s0 H0 C0 cl0 fp0 => (dg_name 1 (Z.blk s0 H0 C0 cl0 fp0).nd)) (fun _ _ _ _ _ => dts_nil) (fun s0 H0 C0 cl0 fp0 => (de_cmp (c_in (Z.blk s0 H0 C0 cl0 fp0)) (de_var 1) (de_gstr Y.v_LETTERS) rfl))) da_nil)))))
theorem sc_count_sizes : FnScope ["capacity", "start", "log", "found", "mark", "page"] ["capacity", "start", "log"] (defScope s_count_sizes) := ⟨rfl, rfl, rfl, by decide +kernel, rfl, by decide +kernel, by decide +kernel⟩
def g_count_sizes : Dn.Env → SOut :=
    (dSeq (dSet 3 (dLst (dCons (dOp fLen (dCons (dVar 1) dNil)) dNil)))
    (dSeq (dFor (dItems (dVar 2)) (gT 2 (gsCons (gN 4) (gsCons (gN 5) gsNil))) (dExpr (dMut 3 mAppend (dCons (dOp fMin2 (dCons (dVar 0) (dCons (dOp fAdd (dCons (dOp fIx (dCons (dVar 3) (dCons (dOp fNeg (dCons (dC (.int 1)) dNil)) dNil))) (dCons (dOp fInt1 (dCons (dOp fEq (dCons (dVar 4) (dCons (dC (.str "miss")) dNil))) dNil)) dNil))) dNil))) dNil))))
    (dRet (dVar 3))))
def f_count_sizes : List D → Out D := fnD 6 3 (fun i => [0, 1, 2].contains i) g_count_sizes
theorem c_count_sizes (Y : Fx K mg) : Cal P w K mg base 1 3 "count_sizes" s_count_sizes [] ["capacity", "start", "log"] f_count_sizes := cal_at Y.d_count_sizes sc_count_sizes rfl rfl fun f0 cdv0 A0 outer0 s00 H00 E0 Z =>
    (dss_cons (ds_set 3 Z (de_lst (da_cons (de_bi b_len PySem.boot_len (by rfl) Y.n_len (da_cons (de_var 1) da_nil)) da_nil)))
    (dss_cons (ds_for Z (di_any (de_var 2)) (dg_tup 2 _ Z (dgs_cons (dg_name 4 Z.nd) (dgs_cons (dg_name 5 Z.nd) dgs_nil))) (dss_one (ds_expr (de_append 3 (da_cons (de_bi (b_min2 Z.calm) PyProof.Rows.boot_min (by rfl) Y.n_min (da_cons (de_var 0) (da_cons (de_add (de_ix Z (de_var 3) (de_neg de_int) (fun _ _ => rfl)) (de_ty b_int PyProof.Rows.boot_int (by rfl) Y.n_int (da_cons (de_cmp (c_eq Z) (de_var 4) (de_gstr Y.v_MISS) (nomark _)) da_nil))) da_nil))) da_nil)))))
    (dss_one (ds_ret (de_var 3)))))
theorem sc_next_content : FnScope ["content", "event", "out", "mark", "page", "other"] ["content", "event", "out"] (defScope s_next_content) := ⟨rfl, rfl, rfl, by decide +kernel, rfl, by decide +kernel, by decide +kernel⟩
def g_next_content : Dn.Env → SOut :=
    (dSeq (dAsg (dVar 1) (gT 2 (gsCons (gN 3) (gsCons (gN 4) gsNil))))
    (dSeq (dIfS (dB (dOp fNe (dCons (dOp fIn (dCons (dVar 4) (dCons (dVar 0) dNil))) (dCons (dOp fEq (dCons (dVar 3) (dCons (dC (.str "hit")) dNil))) dNil)))) (dRet (dC .non)) dSkip)
    (dSeq (dIfS (dB (dOp fIsN (dCons (dVar 2) (dCons (dC .non) dNil)))) (dRet (dIf (dB (dOp fEq (dCons (dVar 3) (dCons (dC (.str "hit")) dNil)))) (dVar 0) (dOp fAdd (dCons (dVar 0) (dCons (dLst (dCons (dVar 4) dNil)) dNil))))) dSkip)
    (dSeq (dIfS (dB (dOp fNotIn (dCons (dVar 2) (dCons (dVar 0) dNil)))) (dRet (dC .non)) dSkip)
    (dRet (dOp fAdd (dCons (dLc (dItems (dVar 0)) (gN 5) (dB (dOp fNe (dCons (dVar 5) (dCons (dVar 2) dNil)))) (dVar 5) [5]) (dCons (dLst (dCons (dVar 4) dNil)) dNil))))))))
def f_next_content : List D → Out D := fnD 6 3 (fun i => [0, 1, 2].contains i) g_next_content
theorem c_next_content (Y : Fx K mg) : Cal P w K mg base 1 3 "next_content" s_next_content [] ["content", "event", "out"] f_next_content := cal_at Y.d_next_content sc_next_content rfl rfl fun f0 cdv0 A0 outer0 s00 H00 E0 Z =>
    (dss_cons (ds_asg (de_var 1) (dg_tup 2 _ Z (dgs_cons (dg_name 3 Z.nd) (dgs_cons (dg_name 4 Z.nd) dgs_nil))))
    (dss_cons (ds_if (dt_cmp (c_ne Z) (de_cmp (c_in Z) (de_var 4) (de_var 0) rfl) (de_cmp (c_eq Z) (de_var 3) (de_gstr Y.v_HIT) (nomark _)) (nomark _)) (dss_one (ds_ret de_non)) dss_nil)
    (dss_cons (ds_if (dt_cmp c_isN (de_var 2) de_non (nomark _)) (dss_one (ds_ret (de_if (dt_cmp (c_eq Z) (de_var 3) (de_gstr Y.v_HIT) (nomark _)) (de_var 0) (de_add (de_var 0) (de_lst (da_cons (de_var 4) da_nil)))))) dss_nil)
    (dss_cons (ds_if (dt_cmp (c_notIn Z) (de_var 2) (de_var 0) rfl) (dss_one (ds_ret de_non)) dss_nil)
    (dss_one (ds_ret (de_add (de_lc [("other", 5)] Z (di_any (de_var 0)) (by rfl) (fun s0 H0 C0 cl0 fp0 => (dg_name 5 (Z.blk s0 H0 C0 cl0 fp0).nd)) (fun s0 H0 C0 cl0 fp0 => dts_one (dt_cmp (c_ne (Z.blk s0 H0 C0 cl0 fp0)) (de_var 5) (de_var 2) (nomark _))) (fun s0 H0 C0 cl0 fp0 => (de_var 5))) (de_lst (da_cons (de_var 4) da_nil)))))))))
theorem sc_l_source : FnScope ["script", "k", "cell"] ["script", "k"] (defScope s_l_source) := ⟨rfl, rfl, rfl, by decide +kernel, rfl, by decide +kernel, by decide +kernel⟩
def g_l_source : Dn.Env → SOut :=
    (dSeq (dSet 2 (dIf (dB (dOp fLt (dCons (dVar 1) (dCons (dOp fLen (dCons (dVar 0) dNil)) dNil)))) (dOp fIx (dCons (dVar 0) (dCons (dVar 1) dNil))) (dC (.int 0))))
    (dRet (dLst (dCons (dOp fMax2 (dCons (dC (.int 0)) (dCons (dOp fSub (dCons (dOp fAbs (dCons (dVar 2) dNil)) (dCons (dOp fPow (dCons (dC (.int 10)) (dCons (dC (.int 18)) dNil))) dNil))) dNil))) (dCons (dOp fAdd (dCons (dOp fMod (dCons (dVar 2) (dCons (dOp fAdd (dCons (dOp fPow (dCons (dC (.int 10)) (dCons (dC (.int 39)) dNil))) (dCons (dC (.int 7)) dNil))) dNil))) (dCons (dOp fMul (dCons (dC (.int 27644437)) (dCons (dVar 1) dNil))) dNil))) (dCons (dC (.int 0)) dNil))))))
def f_l_source : List D → Out D := fnD 3 2 (fun i => [0, 1].contains i) g_l_source
theorem c_l_source (Y : Fx K mg) : Cal P w K mg base 1 2 "_law_source" s_l_source [] ["script", "k"] f_l_source := cal_at Y.d_l_source sc_l_source rfl rfl fun f0 cdv0 A0 outer0 s00 H00 E0 Z =>
    (dss_cons (ds_set 2 Z (de_if (dt_cmp c_lt (de_var 1) (de_bi b_len PySem.boot_len (by rfl) Y.n_len (da_cons (de_var 0) da_nil)) (nomark _)) (de_ix Z (de_var 0) (de_var 1) (fun _ _ => rfl)) de_int))
    (dss_one (ds_ret (de_lst (da_cons (de_bi (b_max2 Z.calm) PyProof.Rows.boot_max (by rfl) Y.n_max (da_cons de_int (da_cons (de_sub (de_bi b_abs PyProof.Rows.boot_abs (by rfl) Y.n_abs (da_cons (de_var 2) da_nil)) (de_pow de_int de_int)) da_nil))) (da_cons (de_add (de_mod (de_var 2) (de_add (de_pow de_int de_int) de_int)) (de_mul de_int (de_var 1))) (da_cons de_int da_nil)))))))
theorem sc_l_draw : FnScope ["source", "bound", "found", "mixed"] ["source", "bound"] (defScope s_l_draw) := ⟨rfl, rfl, rfl, by decide +kernel, rfl, by decide +kernel, by decide +kernel⟩
def g_l_draw : Dn.Env → SOut :=
    (dSeq (dIfS (dB (dOp fGt (dCons (dOp fIx (dCons (dVar 0) (dCons (dC (.int 0)) dNil))) (dCons (dC (.int 0)) dNil)))) (dSeq (dSet 2 (dOp fMod (dCons (dOp fIx (dCons (dVar 0) (dCons (dC (.int 0)) dNil))) (dCons (dVar 1) dNil))))
    (dSeq (dPutIx 0 (dOp fDiv (dCons (dOp fIx (dCons (dVar 0) (dCons (dC (.int 0)) dNil))) (dCons (dVar 1) dNil))) (dC (.int 0)))
    (dRet (dVar 2)))) dSkip)
    (dSeq (dPutIx 0 (dOp fAdd (dCons (dOp fIx (dCons (dVar 0) (dCons (dC (.int 2)) dNil))) (dCons (dC (.int 1)) dNil))) (dC (.int 2)))
    (dSeq (dSet 3 (dOp fMod (dCons (dOp fPow (dCons (dOp fAdd (dCons (dOp fIx (dCons (dVar 0) (dCons (dC (.int 1)) dNil))) (dCons (dOp fMul (dCons (dC (.int 86028121)) (dCons (dOp fIx (dCons (dVar 0) (dCons (dC (.int 2)) dNil))) dNil))) dNil))) (dCons (dC (.int 3)) dNil))) (dCons (dOp fAdd (dCons (dOp fPow (dCons (dC (.int 10)) (dCons (dC (.int 38)) dNil))) (dCons (dC (.int 133)) dNil))) dNil))))
    (dSeq (dSet 3 (dOp fMod (dCons (dOp fPow (dCons (dOp fAdd (dCons (dVar 3) (dCons (dOp fMul (dCons (dC (.int 32452843)) (dCons (dOp fIx (dCons (dVar 0) (dCons (dC (.int 2)) dNil))) dNil))) dNil))) (dCons (dC (.int 3)) dNil))) (dCons (dOp fAdd (dCons (dOp fPow (dCons (dC (.int 10)) (dCons (dC (.int 37)) dNil))) (dCons (dC (.int 43)) dNil))) dNil))))
    (dRet (dOp fMod (dCons (dOp fDiv (dCons (dVar 3) (dCons (dC (.int 65537)) dNil))) (dCons (dVar 1) dNil))))))))
def f_l_draw : List D → Out D := fnD 4 2 (fun i => [0, 1].contains i) g_l_draw
theorem c_l_draw (Y : Fx K mg) : Cal P w K mg base 1 2 "_law_draw" s_l_draw [] ["source", "bound"] f_l_draw := cal_at Y.d_l_draw sc_l_draw rfl rfl fun f0 cdv0 A0 outer0 s00 H00 E0 Z =>
    (dss_cons (ds_if (dt_cmp c_gt (de_ix Z (de_var 0) de_int (fun _ _ => rfl)) de_int (nomark _)) (dss_cons (ds_set 2 Z (de_mod (de_ix Z (de_var 0) de_int (fun _ _ => rfl)) (de_var 1)))
    (dss_cons (ds_putIx 0 (de_fdiv (de_ix Z (de_var 0) de_int (fun _ _ => rfl)) (de_var 1)) de_int)
    (dss_one (ds_ret (de_var 2))))) dss_nil)
    (dss_cons (ds_putIx 0 (de_add (de_ix Z (de_var 0) de_int (fun _ _ => rfl)) de_int) de_int)
    (dss_cons (ds_set 3 Z (de_mod (de_pow (de_add (de_ix Z (de_var 0) de_int (fun _ _ => rfl)) (de_mul de_int (de_ix Z (de_var 0) de_int (fun _ _ => rfl)))) de_int) (de_add (de_pow de_int de_int) de_int)))
    (dss_cons (ds_set 3 Z (de_mod (de_pow (de_add (de_var 3) (de_mul de_int (de_ix Z (de_var 0) de_int (fun _ _ => rfl)))) de_int) (de_add (de_pow de_int de_int) de_int)))
    (dss_one (ds_ret (de_mod (de_fdiv (de_var 3) de_int) (de_var 1))))))))
theorem sc_l_followed : FnScope ["room", "initial", "happened", "gone", "here", "used", "found", "mark", "page", "other"] ["room", "initial", "happened", "gone"] (defScope s_l_followed) := ⟨rfl, rfl, rfl, by decide +kernel, rfl, by decide +kernel, by decide +kernel⟩
def g_l_followed : Dn.Env → SOut :=
    (dSeq (dIfS (dNot (dTru (dOn (fIsi "list") (dVar 3)))) (dRet (dC .non)) dSkip)
    (dSeq (dAsg (dTup (dCons (dOp fSortedA (dCons (dVar 1) dNil)) (dCons (dC (.int 0)) (dCons (dLst (dCons (dOp fTupOf (dCons (dOp fSortedA (dCons (dVar 1) dNil)) dNil)) dNil)) dNil)))) (gT 3 (gsCons (gN 4) (gsCons (gN 5) (gsCons (gN 6) gsNil)))))
    (dSeq (dFor (dItems (dVar 2)) (gT 2 (gsCons (gN 7) (gsCons (gN 8) gsNil))) (dSeq (dIfS (dB (dOp fNe (dCons (dOp fEq (dCons (dVar 7) (dCons (dC (.str "hit")) dNil))) (dCons (dOp fIn (dCons (dVar 8) (dCons (dVar 4) dNil))) dNil)))) (dRet (dC .non)) dSkip)
    (dSeq (dIfS (dAnd (dB (dOp fEq (dCons (dVar 7) (dCons (dC (.str "miss")) dNil)))) (dB (dOp fEq (dCons (dOp fLen (dCons (dVar 4) dNil)) (dCons (dVar 0) dNil))))) (dSeq (dIfS (dOr (dB (dOp fEq (dCons (dVar 5) (dCons (dOp fLen (dCons (dVar 3) dNil)) dNil)))) (dB (dOp fNotIn (dCons (dOp fIx (dCons (dVar 3) (dCons (dVar 5) dNil))) (dCons (dVar 4) dNil))))) (dRet (dC .non)) dSkip)
    (dSeq (dSet 4 (dLc (dItems (dVar 4)) (gN 9) (dB (dOp fNe (dCons (dVar 9) (dCons (dOp fIx (dCons (dVar 3) (dCons (dVar 5) dNil))) dNil)))) (dVar 9) [9]))
    (dSet 5 (dOp fAdd (dCons (dVar 5) (dCons (dC (.int 1)) dNil)))))) dSkip)
    (dSeq (dIfS (dB (dOp fEq (dCons (dVar 7) (dCons (dC (.str "miss")) dNil)))) (dSet 4 (dOp fSortedA (dCons (dOp fAdd (dCons (dVar 4) (dCons (dLst (dCons (dVar 8) dNil)) dNil))) dNil))) dSkip)
    (dExpr (dMut 6 mAppend (dCons (dOp fTupOf (dCons (dVar 4) dNil)) dNil)))))))
    (dRet (dIf (dB (dOp fEq (dCons (dVar 5) (dCons (dOp fLen (dCons (dVar 3) dNil)) dNil)))) (dVar 6) (dC .non))))))
def f_l_followed : List D → Out D := fnD 10 4 (fun i => [0, 1, 2, 3].contains i) g_l_followed
theorem c_l_followed (Y : Fx K mg) : Cal P w K mg base 1 4 "_law_followed" s_l_followed [] ["room", "initial", "happened", "gone"] f_l_followed := cal_at Y.d_l_followed sc_l_followed rfl rfl fun f0 cdv0 A0 outer0 s00 H00 E0 Z =>
    (dss_cons (ds_if (dt_not (dt_tru (de_isi (T := "list") (by decide) (by decide +kernel) (by rfl) Y.n_isinstance (by rfl) Y.n_list (de_var 3)))) (dss_one (ds_ret de_non)) dss_nil)
    (dss_cons (ds_asg (de_tup (da_cons (de_bi (b_sortedA Z) PyProof.Rows.boot_sorted (by rfl) Y.n_sorted (da_cons (de_var 1) da_nil)) (da_cons de_int (da_cons (de_lst (da_cons (de_ty b_tuple PyProof.Rows.boot_tuple (by rfl) Y.n_tuple (da_cons (de_bi (b_sortedA Z) PyProof.Rows.boot_sorted (by rfl) Y.n_sorted (da_cons (de_var 1) da_nil)) da_nil)) da_nil)) da_nil)))) (dg_tup 3 _ Z (dgs_cons (dg_name 4 Z.nd) (dgs_cons (dg_name 5 Z.nd) (dgs_cons (dg_name 6 Z.nd) dgs_nil)))))
    (dss_cons (ds_for Z (di_any (de_var 2)) (dg_tup 2 _ Z (dgs_cons (dg_name 7 Z.nd) (dgs_cons (dg_name 8 Z.nd) dgs_nil))) (dss_cons (ds_if (dt_cmp (c_ne Z) (de_cmp (c_eq Z) (de_var 7) de_str (nomark _)) (de_cmp (c_in Z) (de_var 8) (de_var 4) rfl) (nomark _)) (dss_one (ds_ret de_non)) dss_nil)
    (dss_cons (ds_if (dw_and (dt_cmp (c_eq Z) (de_var 7) de_str (nomark _)) (dw_and1 (dt_cmp (c_eq Z) (de_bi b_len PySem.boot_len (by rfl) Y.n_len (da_cons (de_var 4) da_nil)) (de_var 0) (nomark _)))).t (dss_cons (ds_if (dw_or (dt_cmp (c_eq Z) (de_var 5) (de_bi b_len PySem.boot_len (by rfl) Y.n_len (da_cons (de_var 3) da_nil)) (nomark _)) (dw_or1 (dt_cmp (c_notIn Z) (de_ix Z (de_var 3) (de_var 5) (fun _ _ => rfl)) (de_var 4) rfl))).t (dss_one (ds_ret de_non)) dss_nil)
    (dss_cons (by first | exact ds_set 4 Z (de_lc [("other", 9)] Z (di_any (de_var 4)) (by rfl) (fun s0 H0 C0 cl0 fp0 => (dg_name 9 (Z.blk s0 H0 C0 cl0 fp0).nd)) (fun s0 H0 C0 cl0 fp0 => dts_one (dt_cmp (c_ne (Z.blk s0 H0 C0 cl0 fp0)) (de_var 9) (de_ix (Z.blk s0 H0 C0 cl0 fp0) (de_var 3) (de_var 5) (fun _ _ => rfl)) (nomark _))) (fun s0 H0 C0 cl0 fp0 => (de_var 9))) | exact ds_setLc [("other", 9)] Z (by rfl) (by rfl) (by rfl) (by rfl) (di_any (de_var 4)) (by rfl) (fun s0 H0 C0 cl0 fp0 => (dg_name 9 (Z.blk s0 H0 C0 cl0 fp0).nd)) (fun s0 H0 C0 cl0 fp0 => dts_one (dt_cmp (c_ne (Z.blk s0 H0 C0 cl0 fp0)) (de_var 9) (de_ix (Z.blk s0 H0 C0 cl0 fp0) (de_var 3) (de_var 5) (fun _ _ => rfl)) (nomark _))) (fun s0 H0 C0 cl0 fp0 => (de_var 9)))
    (dss_one (ds_set 5 Z (de_add (de_var 5) de_int))))) dss_nil)
    (dss_cons (ds_if (dt_cmp (c_eq Z) (de_var 7) de_str (nomark _)) (dss_one (ds_set 4 Z (de_bi (b_sortedA Z) PyProof.Rows.boot_sorted (by rfl) Y.n_sorted (da_cons (de_add (de_var 4) (de_lst (da_cons (de_var 8) da_nil))) da_nil)))) dss_nil)
    (dss_one (ds_expr (de_append 6 (da_cons (de_ty b_tuple PyProof.Rows.boot_tuple (by rfl) Y.n_tuple (da_cons (de_var 4) da_nil)) da_nil))))))))
    (dss_one (ds_ret (de_if (dt_cmp (c_eq Z) (de_var 5) (de_bi b_len PySem.boot_len (by rfl) Y.n_len (da_cons (de_var 3) da_nil)) (nomark _)) (de_var 6) de_non))))))
theorem sc_is_shelf : FnScope ["value", "page"] ["value"] (defScope s_is_shelf) := ⟨rfl, rfl, rfl, by decide +kernel, rfl, by decide +kernel, by decide +kernel⟩
def g_is_shelf : Dn.Env → SOut :=
    (dSeq (dIfS (dOr (dNot (dTru (dOn (fIsi "tuple") (dVar 0)))) (dNot (dTru (dOp fAll (dCons (dLc (dItems (dVar 0)) (gN 1) (fun env => .ok true env) (dCall f_is_page (dCons (dVar 1) dNil)) [1]) dNil))))) (dRet (dC (.bl false))) dSkip)
    (dRet (dOp fEq (dCons (dOp fLenSet (dCons (dVar 0) dNil)) (dCons (dOp fLen (dCons (dVar 0) dNil)) dNil)))))
def f_is_shelf : List D → Out D := fnD 2 1 (fun i => [0].contains i) g_is_shelf
theorem c_is_shelf (Y : Fx K mg) : Cal P w K mg base 2 1 "is_shelf" s_is_shelf [] ["value"] f_is_shelf := cal_at Y.d_is_shelf sc_is_shelf rfl rfl fun f0 cdv0 A0 outer0 s00 H00 E0 Z =>
    (dss_cons (ds_if (dw_or (dt_not (dt_tru (de_isi (T := "tuple") (by decide) (by decide +kernel) (by rfl) Y.n_isinstance (by rfl) Y.n_tuple (de_var 0)))) (dw_or1 (dt_not (dt_tru (de_bi (b_all Z.calm) PyProof.Rows.boot_all (by rfl) Y.n_all (da_cons (de_lc [("page", 1)] Z (di_any (de_var 0)) (by rfl) (fun s0 H0 C0 cl0 fp0 => (dg_name 1 (Z.blk s0 H0 C0 cl0 fp0).nd)) (fun _ _ _ _ _ => dts_nil) (fun s0 H0 C0 cl0 fp0 => (de_call (Z.blk s0 H0 C0 cl0 fp0) (c_is_page Y) (by rfl) (da_cons (de_var 1) da_nil) (dcons_len dnil_len)))) da_nil)))))).t (dss_one (ds_ret de_bl)) dss_nil)
    (dss_one (ds_ret (de_cmp (c_eq Z) (de_lenSet Z (by rfl) Y.n_len (by rfl) Y.n_set (de_var 0)) (de_bi b_len PySem.boot_len (by rfl) Y.n_len (da_cons (de_var 0) da_nil)) (nomark _)))))
theorem sc_is_event : FnScope ["value"] ["value"] (defScope s_is_event) := ⟨rfl, rfl, rfl, by decide +kernel, rfl, by decide +kernel, by decide +kernel⟩
def g_is_event : Dn.Env → SOut :=
    (dSeq (dIfS (dOr (dNot (dTru (dOn (fIsi "tuple") (dVar 0)))) (dB (dOp fNe (dCons (dOp fLen (dCons (dVar 0) dNil)) (dCons (dC (.int 2)) dNil))))) (dRet (dC (.bl false))) dSkip)
    (dRet (dAndV (dOn (fIsi "str") (dOp fIx (dCons (dVar 0) (dCons (dC (.int 0)) dNil)))) (dAndV (dOp fIn (dCons (dOp fIx (dCons (dVar 0) (dCons (dC (.int 0)) dNil))) (dCons (dTup (dCons (dC (.str "hit")) (dCons (dC (.str "miss")) dNil))) dNil))) (dCall f_is_page (dCons (dOp fIx (dCons (dVar 0) (dCons (dC (.int 1)) dNil))) dNil))))))
def f_is_event : List D → Out D := fnD 1 1 (fun i => [0].contains i) g_is_event
theorem c_is_event (Y : Fx K mg) : Cal P w K mg base 2 1 "is_event" s_is_event [] ["value"] f_is_event := cal_at Y.d_is_event sc_is_event rfl rfl fun f0 cdv0 A0 outer0 s00 H00 E0 Z =>
    (dss_cons (ds_if (dw_or (dt_not (dt_tru (de_isi (T := "tuple") (by decide) (by decide +kernel) (by rfl) Y.n_isinstance (by rfl) Y.n_tuple (de_var 0)))) (dw_or1 (dt_cmp (c_ne Z) (de_bi b_len PySem.boot_len (by rfl) Y.n_len (da_cons (de_var 0) da_nil)) de_int (nomark _)))).t (dss_one (ds_ret de_bl)) dss_nil)
    (dss_one (ds_ret (de_and (de_isi (T := "str") (by decide) (by decide +kernel) (by rfl) Y.n_isinstance (by rfl) Y.n_str (de_ix Z (de_var 0) de_int (fun _ _ => rfl))) (de_and (de_cmp (c_in Z) (de_ix Z (de_var 0) de_int (fun _ _ => rfl)) (de_tup (da_cons (de_gstr Y.v_HIT) (da_cons (de_gstr Y.v_MISS) da_nil))) rfl) (de_one (de_call Z (c_is_page Y) (by rfl) (da_cons (de_ix Z (de_var 0) de_int (fun _ _ => rfl)) da_nil) (dcons_len dnil_len))))))))
theorem sc_evicting : FnScope ["capacity", "start", "log", "there", "index", "mark", "page"] ["capacity", "start", "log"] (defScope s_evicting) := ⟨rfl, rfl, rfl, by decide +kernel, rfl, by decide +kernel, by decide +kernel⟩
def g_evicting : Dn.Env → SOut :=
    (dSeq (dSet 3 (dCall f_count_sizes (dCons (dVar 0) (dCons (dVar 1) (dCons (dVar 2) dNil)))))
    (dRet (dLc (dEnum (dVar 2)) (gT 2 (gsCons (gN 4) (gsCons (gT 2 (gsCons (gN 5) (gsCons (gN 6) gsNil))) gsNil))) (dAnd (dB (dOp fEq (dCons (dVar 5) (dCons (dC (.str "miss")) dNil)))) (dB (dOp fEq (dCons (dOp fIx (dCons (dVar 3) (dCons (dVar 4) dNil))) (dCons (dVar 0) dNil))))) (dVar 4) [4, 5, 6])))
def f_evicting : List D → Out D := fnD 7 3 (fun i => [0, 1, 2].contains i) g_evicting
theorem c_evicting (Y : Fx K mg) : Cal P w K mg base 2 3 "evicting" s_evicting [] ["capacity", "start", "log"] f_evicting := cal_at Y.d_evicting sc_evicting rfl rfl fun f0 cdv0 A0 outer0 s00 H00 E0 Z =>
    (dss_cons (ds_set 3 Z (de_call Z (c_count_sizes Y) (by rfl) (da_cons (de_var 0) (da_cons (de_var 1) (da_cons (de_var 2) da_nil))) (dcons_len (dcons_len (dcons_len dnil_len)))))
    (dss_one (ds_ret (de_lc [("index", 4), ("mark", 5), ("page", 6)] Z (di_enum (by rfl) Y.n_enumerate (de_var 2)) (by rfl) (fun s0 H0 C0 cl0 fp0 => (dg_tup 2 _ (Z.blk s0 H0 C0 cl0 fp0) (dgs_cons (dg_name 4 (Z.blk s0 H0 C0 cl0 fp0).nd) (dgs_cons (dg_tup 2 _ (Z.blk s0 H0 C0 cl0 fp0) (dgs_cons (dg_name 5 (Z.blk s0 H0 C0 cl0 fp0).nd) (dgs_cons (dg_name 6 (Z.blk s0 H0 C0 cl0 fp0).nd) dgs_nil))) dgs_nil)))) (fun s0 H0 C0 cl0 fp0 => dts_one (dw_and (dt_cmp (c_eq (Z.blk s0 H0 C0 cl0 fp0)) (de_var 5) (de_gstr Y.v_MISS) (nomark _)) (dw_and1 (dt_cmp (c_eq (Z.blk s0 H0 C0 cl0 fp0)) (de_ix (Z.blk s0 H0 C0 cl0 fp0) (de_var 3) (de_var 4) (fun _ _ => rfl)) (de_var 0) (nomark _)))).t) (fun s0 H0 C0 cl0 fp0 => (de_var 4))))))
theorem sc_l_pages : FnScope ["source", "count", "letters", "style", "names", "k", "name"] ["source", "count"] (defScope s_l_pages) := ⟨rfl, rfl, rfl, by decide +kernel, rfl, by decide +kernel, by decide +kernel⟩
def g_l_pages : Dn.Env → SOut :=
    (dSeq (dSet 2 (dC (.str "abcdefghijklmnopqrstuvwxyz")))
    (dSeq (dAsg (dTup (dCons (dCallM f_l_draw (dCons (dVar 0) (dCons (dC (.int 4)) dNil))) (dCons (dLst dNil) dNil))) (gT 2 (gsCons (gN 3) (gsCons (gN 4) gsNil))))
    (dSeq (dFor (dRng (dCons (dVar 1) dNil)) (gN 5) (dSeq (dSet 6 (dOp fAdd (dCons (dOp fIx (dCons (dVar 2) (dCons (dOp fDiv (dCons (dVar 5) (dCons (dC (.int 26)) dNil))) dNil))) (dCons (dOp fIx (dCons (dVar 2) (dCons (dOp fMod (dCons (dVar 5) (dCons (dC (.int 26)) dNil))) dNil))) dNil))))
    (dExpr (dMut 4 mAppend (dCons (dOp fIx (dCons (dLst (dCons (dOp fAdd (dCons (dVar 6) (dCons (dC (.str "zy")) dNil))) (dCons (dVar 6) (dCons (dOp fAdd (dCons (dVar 6) (dCons (dC (.str "q")) dNil))) (dCons (dOp fAdd (dCons (dC (.str "zy")) (dCons (dVar 6) dNil))) dNil))))) (dCons (dVar 3) dNil))) dNil)))))
    (dSeq (dIfS (dB (dOp fEq (dCons (dVar 3) (dCons (dC (.int 2)) dNil)))) (dSet 4 (dSl (dOp fAdd (dCons (dLst (dCons (dC (.str "a")) (dCons (dC (.str "b")) (dCons (dC (.str "aa")) (dCons (dC (.str "ab")) (dCons (dC (.str "aaaa")) (dCons (dC (.str "aaab")) (dCons (dC (.str "zzzz")) (dCons (dC (.str "hit")) (dCons (dC (.str "miss")) (dCons (dC (.str "z")) dNil))))))))))) (dCons (dVar 4) dNil))) dNoP (dPart (dVar 1)))) dSkip)
    (dRet (dLc (dRng (dCons (dVar 1) dNil)) (gN 5) (fun env => .ok true env) (dMut 4 mPopAt (dCons (dCallM f_l_draw (dCons (dVar 0) (dCons (dOp fLen (dCons (dVar 4) dNil)) dNil))) dNil)) [5]))))))
def f_l_pages : List D → Out D := fnD 7 2 (fun i => [0, 1].contains i) g_l_pages
theorem c_l_pages (Y : Fx K mg) : Cal P w K mg base 2 2 "_law_pages" s_l_pages [] ["source", "count"] f_l_pages := cal_at Y.d_l_pages sc_l_pages rfl rfl fun f0 cdv0 A0 outer0 s00 H00 E0 Z =>
    (dss_cons (ds_set 2 Z de_str)
    (dss_cons (ds_asg (de_tup (da_cons (de_callM Z (c_l_draw Y) (by rfl) (da_cons (de_var 0) (da_cons de_int da_nil)) (dcons_len (dcons_len dnil_len))) (da_cons (de_lst da_nil) da_nil))) (dg_tup 2 _ Z (dgs_cons (dg_name 3 Z.nd) (dgs_cons (dg_name 4 Z.nd) dgs_nil))))
    (dss_cons (ds_for Z (di_rng1 (by rfl) Y.n_range (de_var 1)) (dg_name 5 Z.nd) (dss_cons (ds_set 6 Z (de_add (de_ix Z (de_var 2) (de_fdiv (de_var 5) de_int) (fun _ _ => rfl)) (de_ix Z (de_var 2) (de_mod (de_var 5) de_int) (fun _ _ => rfl))))
    (dss_one (ds_expr (de_append 4 (da_cons (de_ix Z (de_lst (da_cons (de_add (de_var 6) de_str) (da_cons (de_var 6) (da_cons (de_add (de_var 6) de_str) (da_cons (de_add de_str (de_var 6)) da_nil))))) (de_var 3) (fun _ _ => rfl)) da_nil))))))
    (dss_cons (ds_if (dt_cmp (c_eq Z) (de_var 3) de_int (nomark _)) (dss_one (ds_set 4 Z (de_sl (de_add (de_lst (da_cons de_str (da_cons de_str (da_cons de_str (da_cons de_str (da_cons de_str (da_cons de_str (da_cons de_str (da_cons de_str (da_cons de_str (da_cons de_str da_nil))))))))))) (de_var 4)) dp_none (dp_some (de_var 1))))) dss_nil)
    (dss_one (ds_ret (de_lc [("k", 5)] Z (di_rng1 (by rfl) Y.n_range (de_var 1)) (by rfl) (fun s0 H0 C0 cl0 fp0 => (dg_name 5 (Z.blk s0 H0 C0 cl0 fp0).nd)) (fun _ _ _ _ _ => dts_nil) (fun s0 H0 C0 cl0 fp0 => (de_popAt 4 (da_cons (de_callM (Z.blk s0 H0 C0 cl0 fp0) (c_l_draw Y) (by rfl) (da_cons (de_var 0) (da_cons (de_bi b_len PySem.boot_len (by rfl) Y.n_len (da_cons (de_var 4) da_nil)) da_nil)) (dcons_len (dcons_len dnil_len))) da_nil))))))))))
theorem sc_l_run : FnScope ["source", "room", "initial", "pages", "size", "content", "happened", "gone", "contents", "busy", "k", "absent", "page"] ["source", "room", "initial", "pages", "size"] (defScope s_l_run) := ⟨rfl, rfl, rfl, by decide +kernel, rfl, by decide +kernel, by decide +kernel⟩
def g_l_run : Dn.Env → SOut :=
    (dSeq (dAsg (dTup (dCons (dOp fListOf (dCons (dVar 2) dNil)) (dCons (dLst dNil) (dCons (dLst dNil) (dCons (dLst (dCons (dOp fListOf (dCons (dVar 2) dNil)) dNil)) dNil))))) (gT 4 (gsCons (gN 5) (gsCons (gN 6) (gsCons (gN 7) (gsCons (gN 8) gsNil))))))
    (dSeq (dSet 9 (dOp fAdd (dCons (dC (.int 1)) (dCons (dCallM f_l_draw (dCons (dVar 0) (dCons (dC (.int 4)) dNil))) dNil))))
    (dSeq (dFor (dRng (dCons (dVar 4) dNil)) (gN 10) (dSeq (dSet 11 (dLc (dItems (dVar 3)) (gN 12) (dB (dOp fNotIn (dCons (dVar 12) (dCons (dVar 5) dNil)))) (dVar 12) [12]))
    (dSeq (dIfS (dAnd (dB (dOp fNe (dCons (dVar 5) (dCons (dLst dNil) dNil)))) (dOr (dB (dOp fEq (dCons (dVar 11) (dCons (dLst dNil) dNil)))) (dB (dOp fLt (dCons (dCallM f_l_draw (dCons (dVar 0) (dCons (dC (.int 6)) dNil))) (dCons (dVar 9) dNil)))))) (dExpr (dMut 6 mAppend (dCons (dTup (dCons (dC (.str "hit")) (dCons (dOp fIx (dCons (dVar 5) (dCons (dCallM f_l_draw (dCons (dVar 0) (dCons (dOp fLen (dCons (dVar 5) dNil)) dNil))) dNil))) dNil))) dNil))) (dSeq (dSet 12 (dOp fIx (dCons (dVar 11) (dCons (dCallM f_l_draw (dCons (dVar 0) (dCons (dOp fLen (dCons (dVar 11) dNil)) dNil))) dNil))))
    (dSeq (dExpr (dMut 6 mAppend (dCons (dTup (dCons (dC (.str "miss")) (dCons (dVar 12) dNil))) dNil)))
    (dSeq (dIfS (dB (dOp fEq (dCons (dOp fLen (dCons (dVar 5) dNil)) (dCons (dVar 1) dNil)))) (dExpr (dMut 7 mAppend (dCons (dMut 5 mPopAt (dCons (dCallM f_l_draw (dCons (dVar 0) (dCons (dVar 1) dNil))) dNil)) dNil))) dSkip)
    (dSet 5 (dOp fAdd (dCons (dVar 5) (dCons (dLst (dCons (dVar 12) dNil)) dNil))))))))
    (dExpr (dMut 8 mAppend (dCons (dOp fListOf (dCons (dVar 5) dNil)) dNil))))))
    (dRet (dTup (dCons (dVar 6) (dCons (dVar 7) (dCons (dVar 8) dNil))))))))
def f_l_run : List D → Out D := fnD 13 5 (fun i => [0, 1, 2, 3, 4].contains i) g_l_run
theorem c_l_run (Y : Fx K mg) : Cal P w K mg base 2 5 "_law_run" s_l_run [] ["source", "room", "initial", "pages", "size"] f_l_run := cal_at Y.d_l_run sc_l_run rfl rfl fun f0 cdv0 A0 outer0 s00 H00 E0 Z =>
    (dss_cons (ds_asg (de_tup (da_cons (de_ty b_list PyProof.Rows.boot_list (by rfl) Y.n_list (da_cons (de_var 2) da_nil)) (da_cons (de_lst da_nil) (da_cons (de_lst da_nil) (da_cons (de_lst (da_cons (de_ty b_list PyProof.Rows.boot_list (by rfl) Y.n_list (da_cons (de_var 2) da_nil)) da_nil)) da_nil))))) (dg_tup 4 _ Z (dgs_cons (dg_name 5 Z.nd) (dgs_cons (dg_name 6 Z.nd) (dgs_cons (dg_name 7 Z.nd) (dgs_cons (dg_name 8 Z.nd) dgs_nil))))))
    (dss_cons (ds_set 9 Z (de_add de_int (de_callM Z (c_l_draw Y) (by rfl) (da_cons (de_var 0) (da_cons de_int da_nil)) (dcons_len (dcons_len dnil_len)))))
    (dss_cons (ds_for Z (di_rng1 (by rfl) Y.n_range (de_var 4)) (dg_name 10 Z.nd) (dss_cons (by first | exact ds_set 11 Z (de_lc [("page", 12)] Z (di_any (de_var 3)) (by rfl) (fun s0 H0 C0 cl0 fp0 => (dg_name 12 (Z.blk s0 H0 C0 cl0 fp0).nd)) (fun s0 H0 C0 cl0 fp0 => dts_one (dt_cmp (c_notIn (Z.blk s0 H0 C0 cl0 fp0)) (de_var 12) (de_var 5) rfl)) (fun s0 H0 C0 cl0 fp0 => (de_var 12))) | exact ds_setLc [("page", 12)] Z (by rfl) (by rfl) (by rfl) (by rfl) (di_any (de_var 3)) (by rfl) (fun s0 H0 C0 cl0 fp0 => (dg_name 12 (Z.blk s0 H0 C0 cl0 fp0).nd)) (fun s0 H0 C0 cl0 fp0 => dts_one (dt_cmp (c_notIn (Z.blk s0 H0 C0 cl0 fp0)) (de_var 12) (de_var 5) rfl)) (fun s0 H0 C0 cl0 fp0 => (de_var 12)))
    (dss_cons (ds_if (dw_and (dt_cmp (c_ne Z) (de_var 5) (de_lst da_nil) (nomark _)) (dw_and1 (dw_or (dt_cmp (c_eq Z) (de_var 11) (de_lst da_nil) (nomark _)) (dw_or1 (dt_cmp c_lt (de_callM Z (c_l_draw Y) (by rfl) (da_cons (de_var 0) (da_cons de_int da_nil)) (dcons_len (dcons_len dnil_len))) (de_var 9) (nomark _)))).t)).t (dss_one (ds_expr (de_append 6 (da_cons (de_tup (da_cons de_str (da_cons (de_ix Z (de_var 5) (de_callM Z (c_l_draw Y) (by rfl) (da_cons (de_var 0) (da_cons (de_bi b_len PySem.boot_len (by rfl) Y.n_len (da_cons (de_var 5) da_nil)) da_nil)) (dcons_len (dcons_len dnil_len))) (fun _ _ => rfl)) da_nil))) da_nil)))) (dss_cons (ds_set 12 Z (de_ix Z (de_var 11) (de_callM Z (c_l_draw Y) (by rfl) (da_cons (de_var 0) (da_cons (de_bi b_len PySem.boot_len (by rfl) Y.n_len (da_cons (de_var 11) da_nil)) da_nil)) (dcons_len (dcons_len dnil_len))) (fun _ _ => rfl)))
    (dss_cons (ds_expr (de_append 6 (da_cons (de_tup (da_cons de_str (da_cons (de_var 12) da_nil))) da_nil)))
    (dss_cons (ds_if (dt_cmp (c_eq Z) (de_bi b_len PySem.boot_len (by rfl) Y.n_len (da_cons (de_var 5) da_nil)) (de_var 1) (nomark _)) (dss_one (ds_expr (de_append 7 (da_cons (de_popAt 5 (da_cons (de_callM Z (c_l_draw Y) (by rfl) (da_cons (de_var 0) (da_cons (de_var 1) da_nil)) (dcons_len (dcons_len dnil_len))) da_nil)) da_nil)))) dss_nil)
    (dss_one (ds_set 5 Z (de_add (de_var 5) (de_lst (da_cons (de_var 12) da_nil)))))))))
    (dss_one (ds_expr (de_append 8 (da_cons (de_ty b_list PyProof.Rows.boot_list (by rfl) Y.n_list (da_cons (de_var 5) da_nil)) da_nil)))))))
    (dss_one (ds_ret (de_tup (da_cons (de_var 6) (da_cons (de_var 7) (da_cons (de_var 8) da_nil)))))))))
theorem sc_l_changed : FnScope ["source", "gone", "pages", "at", "other", "some"] ["source", "gone", "pages"] (defScope s_l_changed) := ⟨rfl, rfl, rfl, by decide +kernel, rfl, by decide +kernel, by decide +kernel⟩
def g_l_changed : Dn.Env → SOut :=
    (dSeq (dSet 3 (dCallM f_l_draw (dCons (dVar 0) (dCons (dOpF fAdd (dCons (dOp fLen (dCons (dVar 1) dNil)) (dCons (dC (.int 1)) dNil))) dNil))))
    (dSeq (dSet 4 (dOpF fIx (dCons (dVar 2) (dCons (dCallM f_l_draw (dCons (dVar 0) (dCons (dOp fLen (dCons (dVar 2) dNil)) dNil))) dNil))))
    (dSeq (dSet 5 (dLst (dCons (dOpF fAdd (dCons (dOpF fAdd (dCons (dSl (dVar 1) dNoP (dPart (dVar 3))) (dCons (dLst (dCons (dVar 4) dNil)) dNil))) (dCons (dSl (dVar 1) (dPart (dOpF fAdd (dCons (dVar 3) (dCons (dC (.int 1)) dNil)))) dNoP) dNil))) (dCons (dOpF fAdd (dCons (dSl (dVar 1) dNoP (dPart (dVar 3))) (dCons (dSl (dVar 1) (dPart (dOpF fAdd (dCons (dVar 3) (dCons (dC (.int 1)) dNil)))) dNoP) dNil))) (dCons (dOpF fAdd (dCons (dOpF fAdd (dCons (dSl (dVar 1) dNoP (dPart (dVar 3))) (dCons (dLst (dCons (dVar 4) dNil)) dNil))) (dCons (dSl (dVar 1) (dPart (dVar 3)) dNoP) dNil))) dNil)))))
    (dSeq (dSet 5 (dOpF fAdd (dCons (dVar 5) (dCons (dLst (dCons (dOpF fAdd (dCons (dSl (dVar 1) (dPart (dC (.int 1))) dNoP) (dCons (dSl (dVar 1) dNoP (dPart (dC (.int 1)))) dNil))) (dCons (dOpF fAdd (dCons (dVar 1) (dCons (dSl (dVar 1) (dPart (dOp fNeg (dCons (dC (.int 1)) dNil))) dNoP) dNil))) (dCons (dOp fTupOf (dCons (dVar 1) dNil)) (dCons (dC .non) (dCons (dC (.int 0)) (dCons (dC (.str "a")) (dCons (dC (.odic [] [])) (dCons (dLst (dCons (dC .non) dNil)) dNil))))))))) dNil))))
    (dRet (dOpF fAdd (dCons (dVar 5) (dCons (dLst (dCons (dOpF fAdd (dCons (dOpF fAdd (dCons (dSl (dVar 1) dNoP (dPart (dVar 3))) (dCons (dLst (dCons (dLst (dCons (dVar 4) dNil)) dNil)) dNil))) (dCons (dSl (dVar 1) (dPart (dOpF fAdd (dCons (dVar 3) (dCons (dC (.int 1)) dNil)))) dNoP) dNil))) (dCons (dOpF fAdd (dCons (dOpF fAdd (dCons (dSl (dVar 1) dNoP (dPart (dVar 3))) (dCons (dLst (dCons (dC (.str "zqzq")) dNil)) dNil))) (dCons (dSl (dVar 1) (dPart (dOpF fAdd (dCons (dVar 3) (dCons (dC (.int 1)) dNil)))) dNoP) dNil))) dNil))) dNil))))))))
def f_l_changed : List D → Out D := fnD 6 3 (fun i => [0, 1, 2].contains i) g_l_changed
theorem c_l_changed (Y : Fx K mg) : Cal P w K mg base 2 3 "_law_changed" s_l_changed [] ["source", "gone", "pages"] f_l_changed := cal_at Y.d_l_changed sc_l_changed rfl rfl fun f0 cdv0 A0 outer0 s00 H00 E0 Z =>
    (dss_cons (ds_set 3 Z (de_callM Z (c_l_draw Y) (by rfl) (da_cons (de_var 0) (da_cons (de_addF (de_bi b_len PySem.boot_len (by rfl) Y.n_len (da_cons (de_var 1) da_nil)) de_int) da_nil)) (dcons_len (dcons_len dnil_len))))
    (dss_cons (ds_set 4 Z (de_ixFF Z (de_var 2) (de_callM Z (c_l_draw Y) (by rfl) (da_cons (de_var 0) (da_cons (de_bi b_len PySem.boot_len (by rfl) Y.n_len (da_cons (de_var 2) da_nil)) da_nil)) (dcons_len (dcons_len dnil_len))) (fun _ _ => rfl)))
    (dss_cons (ds_set 5 Z (de_lst (da_cons (de_addF (de_addF (de_sl (de_var 1) dp_none (dp_some (de_var 3))) (de_lst (da_cons (de_var 4) da_nil))) (de_sl (de_var 1) (dp_some (de_addF (de_var 3) de_int)) dp_none)) (da_cons (de_addF (de_sl (de_var 1) dp_none (dp_some (de_var 3))) (de_sl (de_var 1) (dp_some (de_addF (de_var 3) de_int)) dp_none)) (da_cons (de_addF (de_addF (de_sl (de_var 1) dp_none (dp_some (de_var 3))) (de_lst (da_cons (de_var 4) da_nil))) (de_sl (de_var 1) (dp_some (de_var 3)) dp_none)) da_nil)))))
    (dss_cons (ds_set 5 Z (de_addF (de_var 5) (de_lst (da_cons (de_addF (de_sl (de_var 1) (dp_some de_int) dp_none) (de_sl (de_var 1) dp_none (dp_some de_int))) (da_cons (de_addF (de_var 1) (de_sl (de_var 1) (dp_some (de_neg de_int)) dp_none)) (da_cons (de_ty b_tuple PyProof.Rows.boot_tuple (by rfl) Y.n_tuple (da_cons (de_var 1) da_nil)) (da_cons de_non (da_cons de_int (da_cons de_str (da_cons de_dnew (da_cons (de_lst (da_cons de_non da_nil)) da_nil)))))))))))
    (dss_one (ds_ret (de_addF (de_var 5) (de_lst (da_cons (de_addF (de_addF (de_sl (de_var 1) dp_none (dp_some (de_var 3))) (de_lst (da_cons (de_lst (da_cons (de_var 4) da_nil)) da_nil))) (de_sl (de_var 1) (dp_some (de_addF (de_var 3) de_int)) dp_none)) (da_cons (de_addF (de_addF (de_sl (de_var 1) dp_none (dp_some (de_var 3))) (de_lst (da_cons de_str da_nil))) (de_sl (de_var 1) (dp_some (de_addF (de_var 3) de_int)) dp_none)) da_nil))))))))))
theorem sc_l_bent : FnScope ["source", "happened", "at", "mark", "page"] ["source", "happened"] (defScope s_l_bent) := ⟨rfl, rfl, rfl, by decide +kernel, rfl, by decide +kernel, by decide +kernel⟩
def g_l_bent : Dn.Env → SOut :=
    (dSeq (dIfS (dB (dOp fEq (dCons (dVar 1) (dCons (dLst dNil) dNil)))) (dRet (dLst (dCons (dTup (dCons (dC (.str "hit")) (dCons (dC (.str "a")) dNil))) dNil))) dSkip)
    (dSeq (dSet 2 (dCallM f_l_draw (dCons (dVar 0) (dCons (dOp fLen (dCons (dVar 1) dNil)) dNil))))
    (dSeq (dAsg (dOp fIx (dCons (dVar 1) (dCons (dVar 2) dNil))) (gT 2 (gsCons (gN 3) (gsCons (gN 4) gsNil))))
    (dRet (dOp fAdd (dCons (dOp fAdd (dCons (dSl (dVar 1) dNoP (dPart (dVar 2))) (dCons (dLst (dCons (dTup (dCons (dIf (dB (dOp fEq (dCons (dVar 3) (dCons (dC (.str "hit")) dNil)))) (dC (.str "miss")) (dC (.str "hit"))) (dCons (dVar 4) dNil))) dNil)) dNil))) (dCons (dSl (dVar 1) (dPart (dOp fAdd (dCons (dVar 2) (dCons (dC (.int 1)) dNil)))) dNoP) dNil)))))))
def f_l_bent : List D → Out D := fnD 5 2 (fun i => [0, 1].contains i) g_l_bent
theorem c_l_bent (Y : Fx K mg) : Cal P w K mg base 2 2 "_law_bent" s_l_bent [] ["source", "happened"] f_l_bent := cal_at Y.d_l_bent sc_l_bent rfl rfl fun f0 cdv0 A0 outer0 s00 H00 E0 Z =>
    (dss_cons (ds_if (dt_cmp (c_eq Z) (de_var 1) (de_lst da_nil) (nomark _)) (dss_one (ds_ret (de_lst (da_cons (de_tup (da_cons de_str (da_cons de_str da_nil))) da_nil)))) dss_nil)
    (dss_cons (ds_set 2 Z (de_callM Z (c_l_draw Y) (by rfl) (da_cons (de_var 0) (da_cons (de_bi b_len PySem.boot_len (by rfl) Y.n_len (da_cons (de_var 1) da_nil)) da_nil)) (dcons_len (dcons_len dnil_len))))
    (dss_cons (ds_asg (de_ix Z (de_var 1) (de_var 2) (fun _ _ => rfl)) (dg_tup 2 _ Z (dgs_cons (dg_name 3 Z.nd) (dgs_cons (dg_name 4 Z.nd) dgs_nil))))
    (dss_one (ds_ret (de_add (de_add (de_sl (de_var 1) dp_none (dp_some (de_var 2))) (de_lst (da_cons (de_tup (da_cons (de_if (dt_cmp (c_eq Z) (de_var 3) de_str (nomark _)) de_str de_str) (da_cons (de_var 4) da_nil))) da_nil))) (de_sl (de_var 1) (dp_some (de_add (de_var 2) de_int)) dp_none)))))))
theorem sc_is_log : FnScope ["value", "event"] ["value"] (defScope s_is_log) := ⟨rfl, rfl, rfl, by decide +kernel, rfl, by decide +kernel, by decide +kernel⟩
def g_is_log : Dn.Env → SOut :=
    (dRet (dAndV (dOn (fIsi "list") (dVar 0)) (dOp fAll (dCons (dLc (dItems (dVar 0)) (gN 1) (fun env => .ok true env) (dCall f_is_event (dCons (dVar 1) dNil)) [1]) dNil))))
def f_is_log : List D → Out D := fnD 2 1 (fun i => [0].contains i) g_is_log
theorem c_is_log (Y : Fx K mg) : Cal P w K mg base 3 1 "is_log" s_is_log [] ["value"] f_is_log := cal_at Y.d_is_log sc_is_log rfl rfl fun f0 cdv0 A0 outer0 s00 H00 E0 Z =>
    (dss_one (ds_ret (de_and (de_isi (T := "list") (by decide) (by decide +kernel) (by rfl) Y.n_isinstance (by rfl) Y.n_list (de_var 0)) (de_one (de_bi (b_all Z.calm) PyProof.Rows.boot_all (by rfl) Y.n_all (da_cons (de_lc [("event", 1)] Z (di_any (de_var 0)) (by rfl) (fun s0 H0 C0 cl0 fp0 => (dg_name 1 (Z.blk s0 H0 C0 cl0 fp0).nd)) (fun _ _ _ _ _ => dts_nil) (fun s0 H0 C0 cl0 fp0 => (de_call (Z.blk s0 H0 C0 cl0 fp0) (c_is_event Y) (by rfl) (da_cons (de_var 1) da_nil) (dcons_len dnil_len)))) da_nil))))))
theorem sc_check_shelf : FnScope ["capacity", "start"] ["capacity", "start"] (defScope s_check_shelf) := ⟨rfl, rfl, rfl, by decide +kernel, rfl, by decide +kernel, by decide +kernel⟩
def g_check_shelf : Dn.Env → SOut :=
    (dSeq (dIfS (dNot (dTru (dCall f_is_integer (dCons (dVar 0) (dCons (dC (.int 1)) dNil))))) (dRaise "InvalidCapacity") dSkip)
    (dIfS (dOr (dNot (dTru (dCall f_is_shelf (dCons (dVar 1) dNil)))) (dB (dOp fGt (dCons (dOp fLen (dCons (dVar 1) dNil)) (dCons (dVar 0) dNil))))) (dRaise "InvalidShelf") dSkip))
def f_check_shelf : List D → Out D := fnD 2 2 (fun i => [0, 1].contains i) g_check_shelf
theorem c_check_shelf (Y : Fx K mg) : Cal P w K mg base 3 2 "check_shelf" s_check_shelf [] ["capacity", "start"] f_check_shelf := cal_at Y.d_check_shelf sc_check_shelf rfl rfl fun f0 cdv0 A0 outer0 s00 H00 E0 Z =>
    (dss_cons (ds_if (dt_not (dt_tru (de_call Z (c_is_integer Y) (by rfl) (da_cons (de_var 0) (da_cons de_int da_nil)) (dcons_len (dcons_len dnil_len))))) (dss_one (ds_raise Z tk_def Y.e_InvalidCapacity)) dss_nil)
    (dss_one (ds_if (dw_or (dt_not (dt_tru (de_call Z (c_is_shelf Y) (by rfl) (da_cons (de_var 1) da_nil) (dcons_len dnil_len)))) (dw_or1 (dt_cmp c_gt (de_bi b_len PySem.boot_len (by rfl) Y.n_len (da_cons (de_var 1) da_nil)) (de_var 0) (nomark _)))).t (dss_one (ds_raise Z tk_def Y.e_InvalidShelf)) dss_nil)))
theorem sc_replayed : FnScope ["capacity", "start", "log", "evicted", "there", "leaving", "found", "index", "event", "content", "page"] ["capacity", "start", "log", "evicted"] (defScope s_replayed) := ⟨rfl, rfl, rfl, by decide +kernel, rfl, by decide +kernel, by decide +kernel⟩
def g_replayed : Dn.Env → SOut :=
    (dSeq (dSet 4 (dCall f_evicting (dCons (dVar 0) (dCons (dVar 1) (dCons (dVar 2) dNil)))))
    (dSeq (dIfS (dOr (dNot (dTru (dOn (fIsi "list") (dVar 3)))) (dOr (dB (dOp fNe (dCons (dOp fLen (dCons (dVar 3) dNil)) (dCons (dOp fLen (dCons (dVar 4) dNil)) dNil)))) (dNot (dTru (dOp fAll (dCons (dLc (dItems (dVar 3)) (gN 10) (fun env => .ok true env) (dCall f_is_page (dCons (dVar 10) dNil)) [10]) dNil)))))) (dRet (dC .non)) dSkip)
    (dSeq (dSet 5 (dDc (dZip (dCons (dVar 4) (dCons (dVar 3) dNil))) (gT 2 (gsCons (gN 7) (gsCons (gN 10) gsNil))) (fun env => .ok true env) (dVar 7) (dVar 10) [7, 10]))
    (dSeq (dSet 6 (dFz (dLst (dCons (dOp fListOf (dCons (dVar 1) dNil)) dNil))))
    (dSeq (dFor (dEnum (dVar 2)) (gT 2 (gsCons (gN 7) (gsCons (gN 8) gsNil))) (dSeq (dSet 9 (dCall f_next_content (dCons (dOp fIx (dCons (dVar 6) (dCons (dOp fNeg (dCons (dC (.int 1)) dNil)) dNil))) (dCons (dVar 8) (dCons (dGet 5 (dVar 7)) dNil)))))
    (dSeq (dIfS (dB (dOp fIsN (dCons (dVar 9) (dCons (dC .non) dNil)))) (dRet (dC .non)) dSkip)
    (dExpr (dMut 6 mAppend (dCons (dVar 9) dNil))))))
    (dRet (dVar 6)))))))
def f_replayed : List D → Out D := fnD 11 4 (fun i => [0, 1, 2, 3].contains i) g_replayed
theorem c_replayed (Y : Fx K mg) : Cal P w K mg base 3 4 "replayed" s_replayed [] ["capacity", "start", "log", "evicted"] f_replayed := cal_at Y.d_replayed sc_replayed rfl rfl fun f0 cdv0 A0 outer0 s00 H00 E0 Z =>
    (dss_cons (ds_set 4 Z (de_call Z (c_evicting Y) (by rfl) (da_cons (de_var 0) (da_cons (de_var 1) (da_cons (de_var 2) da_nil))) (dcons_len (dcons_len (dcons_len dnil_len)))))
    (dss_cons (ds_if (dw_or (dt_not (dt_tru (de_isi (T := "list") (by decide) (by decide +kernel) (by rfl) Y.n_isinstance (by rfl) Y.n_list (de_var 3)))) (dw_or (dt_cmp (c_ne Z) (de_bi b_len PySem.boot_len (by rfl) Y.n_len (da_cons (de_var 3) da_nil)) (de_bi b_len PySem.boot_len (by rfl) Y.n_len (da_cons (de_var 4) da_nil)) (nomark _)) (dw_or1 (dt_not (dt_tru (de_bi (b_all Z.calm) PyProof.Rows.boot_all (by rfl) Y.n_all (da_cons (de_lc [("page", 10)] Z (di_any (de_var 3)) (by rfl) (fun s0 H0 C0 cl0 fp0 => (dg_name 10 (Z.blk s0 H0 C0 cl0 fp0).nd)) (fun _ _ _ _ _ => dts_nil) (fun s0 H0 C0 cl0 fp0 => (de_call (Z.blk s0 H0 C0 cl0 fp0) (c_is_page Y) (by rfl) (da_cons (de_var 10) da_nil) (dcons_len dnil_len)))) da_nil))))))).t (dss_one (ds_ret de_non)) dss_nil)
    (dss_cons (by first | exact ds_set 5 Z (de_dc [("index", 7), ("page", 10)] Z (di_zip (by rfl) Y.n_zip (da_cons (de_var 4) (da_cons (de_var 3) da_nil))) (by rfl) (fun s0 H0 C0 cl0 fp0 => (dg_tup 2 _ (Z.blk s0 H0 C0 cl0 fp0) (dgs_cons (dg_name 7 (Z.blk s0 H0 C0 cl0 fp0).nd) (dgs_cons (dg_name 10 (Z.blk s0 H0 C0 cl0 fp0).nd) dgs_nil)))) (fun _ _ _ _ _ => dts_nil) (fun s0 H0 C0 cl0 fp0 => (de_var 7)) (fun s0 H0 C0 cl0 fp0 => (de_var 10))) | exact ds_setDc [("index", 7), ("page", 10)] Z (by rfl) (by rfl) (by rfl) (by rfl) (di_zip (by rfl) Y.n_zip (da_cons (de_var 4) (da_cons (de_var 3) da_nil))) (by rfl) (fun s0 H0 C0 cl0 fp0 => (dg_tup 2 _ (Z.blk s0 H0 C0 cl0 fp0) (dgs_cons (dg_name 7 (Z.blk s0 H0 C0 cl0 fp0).nd) (dgs_cons (dg_name 10 (Z.blk s0 H0 C0 cl0 fp0).nd) dgs_nil)))) (fun _ _ _ _ _ => dts_nil) (fun s0 H0 C0 cl0 fp0 => (de_var 7)) (fun s0 H0 C0 cl0 fp0 => (de_var 10)))
    (dss_cons (ds_set 6 Z (de_fz (de_lst (da_cons (de_ty b_list PyProof.Rows.boot_list (by rfl) Y.n_list (da_cons (de_var 1) da_nil)) da_nil))))
    (dss_cons (ds_for Z (di_enum (by rfl) Y.n_enumerate (de_var 2)) (dg_tup 2 _ Z (dgs_cons (dg_name 7 Z.nd) (dgs_cons (dg_name 8 Z.nd) dgs_nil))) (dss_cons (ds_set 9 Z (de_call Z (c_next_content Y) (by rfl) (da_cons (de_ix Z (de_var 6) (de_neg de_int) (fun _ _ => rfl)) (da_cons (de_var 8) (da_cons (de_dget Z 5 (de_var 7)) da_nil))) (dcons_len (dcons_len (dcons_len dnil_len)))))
    (dss_cons (ds_if (dt_cmp c_isN (de_var 9) de_non (nomark _)) (dss_one (ds_ret de_non)) dss_nil)
    (dss_one (ds_expr (de_append 6 (da_cons (de_var 9) da_nil)))))))
    (dss_one (ds_ret (de_var 6))))))))
theorem sc_l_setup : FnScope ["source", "most", "size", "pages", "room", "initial"] ["source", "most", "size"] (defScope s_l_setup) := ⟨rfl, rfl, rfl, by decide +kernel, rfl, by decide +kernel, by decide +kernel⟩
def g_l_setup : Dn.Env → SOut :=
    (dSeq (dSet 3 (dCallM f_l_pages (dCons (dVar 0) (dCons (dOp fAdd (dCons (dC (.int 1)) (dCons (dCallM f_l_draw (dCons (dVar 0) (dCons (dVar 1) dNil))) dNil))) dNil))))
    (dSeq (dSet 4 (dOp fAdd (dCons (dC (.int 1)) (dCons (dCallM f_l_draw (dCons (dVar 0) (dCons (dOp fIx (dCons (dLst (dCons (dC (.int 2)) (dCons (dC (.int 5)) (dCons (dC (.int 40)) dNil)))) (dCons (dCallM f_l_draw (dCons (dVar 0) (dCons (dC (.int 3)) dNil))) dNil))) dNil))) dNil))))
    (dSeq (dSet 5 (dOp fTupOf (dCons (dSl (dVar 3) dNoP (dPart (dOp fMin2 (dCons (dVar 4) (dCons (dCallM f_l_draw (dCons (dVar 0) (dCons (dOp fAdd (dCons (dOp fLen (dCons (dVar 3) dNil)) (dCons (dC (.int 1)) dNil))) dNil))) dNil))))) dNil)))
    (dRet (dTup (dCons (dVar 4) (dCons (dVar 5) (dCons (dOp fAdd (dCons (dSl (dVar 3) (dPart (dOp fLen (dCons (dVar 5) dNil))) dNoP) (dCons (dOp fListOf (dCons (dVar 5) dNil)) dNil))) (dCons (dCallM f_l_draw (dCons (dVar 0) (dCons (dOp fAdd (dCons (dVar 2) (dCons (dC (.int 1)) dNil))) dNil))) dNil)))))))))
def f_l_setup : List D → Out D := fnD 6 3 (fun i => [0, 1, 2].contains i) g_l_setup
theorem c_l_setup (Y : Fx K mg) : Cal P w K mg base 3 3 "_law_setup" s_l_setup [] ["source", "most", "size"] f_l_setup := cal_at Y.d_l_setup sc_l_setup rfl rfl fun f0 cdv0 A0 outer0 s00 H00 E0 Z =>
    (dss_cons (ds_set 3 Z (de_callM Z (c_l_pages Y) (by rfl) (da_cons (de_var 0) (da_cons (de_add de_int (de_callM Z (c_l_draw Y) (by rfl) (da_cons (de_var 0) (da_cons (de_var 1) da_nil)) (dcons_len (dcons_len dnil_len)))) da_nil)) (dcons_len (dcons_len dnil_len))))
    (dss_cons (ds_set 4 Z (de_add de_int (de_callM Z (c_l_draw Y) (by rfl) (da_cons (de_var 0) (da_cons (de_ix Z (de_lst (da_cons de_int (da_cons de_int (da_cons de_int da_nil)))) (de_callM Z (c_l_draw Y) (by rfl) (da_cons (de_var 0) (da_cons de_int da_nil)) (dcons_len (dcons_len dnil_len))) (fun _ _ => rfl)) da_nil)) (dcons_len (dcons_len dnil_len)))))
    (dss_cons (ds_set 5 Z (de_ty b_tuple PyProof.Rows.boot_tuple (by rfl) Y.n_tuple (da_cons (de_sl (de_var 3) dp_none (dp_some (de_bi (b_min2 Z.calm) PyProof.Rows.boot_min (by rfl) Y.n_min (da_cons (de_var 4) (da_cons (de_callM Z (c_l_draw Y) (by rfl) (da_cons (de_var 0) (da_cons (de_add (de_bi b_len PySem.boot_len (by rfl) Y.n_len (da_cons (de_var 3) da_nil)) de_int) da_nil)) (dcons_len (dcons_len dnil_len))) da_nil))))) da_nil)))
    (dss_one (ds_ret (de_tup (da_cons (de_var 4) (da_cons (de_var 5) (da_cons (de_add (de_sl (de_var 3) (dp_some (de_bi b_len PySem.boot_len (by rfl) Y.n_len (da_cons (de_var 5) da_nil))) dp_none) (de_ty b_list PyProof.Rows.boot_list (by rfl) Y.n_list (da_cons (de_var 5) da_nil))) (da_cons (de_callM Z (c_l_draw Y) (by rfl) (da_cons (de_var 0) (da_cons (de_add (de_var 2) de_int) da_nil)) (dcons_len (dcons_len dnil_len))) da_nil))))))))))
theorem sc_check_log : FnScope ["capacity", "start", "log"] ["capacity", "start", "log"] (defScope s_check_log) := ⟨rfl, rfl, rfl, by decide +kernel, rfl, by decide +kernel, by decide +kernel⟩
def g_check_log : Dn.Env → SOut :=
    (dSeq (dExpr (dCall f_check_shelf (dCons (dVar 0) (dCons (dVar 1) dNil))))
    (dIfS (dNot (dTru (dCall f_is_log (dCons (dVar 2) dNil)))) (dRaise "InvalidLog") dSkip))
def f_check_log : List D → Out D := fnD 3 3 (fun i => [0, 1, 2].contains i) g_check_log
theorem c_check_log (Y : Fx K mg) : Cal P w K mg base 4 3 "check_log" s_check_log [] ["capacity", "start", "log"] f_check_log := cal_at Y.d_check_log sc_check_log rfl rfl fun f0 cdv0 A0 outer0 s00 H00 E0 Z =>
    (dss_cons (ds_expr (de_call Z (c_check_shelf Y) (by rfl) (da_cons (de_var 0) (da_cons (de_var 1) da_nil)) (dcons_len (dcons_len dnil_len))))
    (dss_one (ds_if (dt_not (dt_tru (de_call Z (c_is_log Y) (by rfl) (da_cons (de_var 2) da_nil) (dcons_len dnil_len)))) (dss_one (ds_raise Z tk_def Y.e_InvalidLog)) dss_nil)))
theorem sc_replay : FnScope ["capacity", "start", "log", "evicted", "found", "content"] ["capacity", "start", "log", "evicted"] (defScope s_replay) := ⟨rfl, rfl, rfl, by decide +kernel, rfl, by decide +kernel, by decide +kernel⟩
def g_replay : Dn.Env → SOut :=
    (dSeq (dExpr (dCall f_check_log (dCons (dVar 0) (dCons (dVar 1) (dCons (dVar 2) dNil)))))
    (dSeq (dSet 4 (dCall f_replayed (dCons (dVar 0) (dCons (dVar 1) (dCons (dVar 2) (dCons (dVar 3) dNil))))))
    (dSeq (dIfS (dB (dOp fIsN (dCons (dVar 4) (dCons (dC .non) dNil)))) (dRaise "InvalidHistory") dSkip)
    (dRet (dLc (dItems (dVar 4)) (gN 5) (fun env => .ok true env) (dOp fTupOf (dCons (dOp fSortedA (dCons (dVar 5) dNil)) dNil)) [5])))))
def f_replay : List D → Out D := fnD 6 4 (fun i => [0, 1, 2, 3].contains i) g_replay
theorem c_replay (Y : Fx K mg) : Cal P w K mg base 5 4 "replay" s_replay [] ["capacity", "start", "log", "evicted"] f_replay := cal_at Y.d_replay sc_replay rfl rfl fun f0 cdv0 A0 outer0 s00 H00 E0 Z =>
    (dss_cons (ds_expr (de_call Z (c_check_log Y) (by rfl) (da_cons (de_var 0) (da_cons (de_var 1) (da_cons (de_var 2) da_nil))) (dcons_len (dcons_len (dcons_len dnil_len)))))
    (dss_cons (ds_set 4 Z (de_call Z (c_replayed Y) (by rfl) (da_cons (de_var 0) (da_cons (de_var 1) (da_cons (de_var 2) (da_cons (de_var 3) da_nil)))) (dcons_len (dcons_len (dcons_len (dcons_len dnil_len))))))
    (dss_cons (ds_if (dt_cmp c_isN (de_var 4) de_non (nomark _)) (dss_one (ds_raise Z tk_def Y.e_InvalidHistory)) dss_nil)
    (dss_one (ds_ret (de_lc [("content", 5)] Z (di_any (de_var 4)) (by rfl) (fun s0 H0 C0 cl0 fp0 => (dg_name 5 (Z.blk s0 H0 C0 cl0 fp0).nd)) (fun _ _ _ _ _ => dts_nil) (fun s0 H0 C0 cl0 fp0 => (de_ty b_tuple PyProof.Rows.boot_tuple (by rfl) Y.n_tuple (da_cons (de_bi (b_sortedA (Z.blk s0 H0 C0 cl0 fp0)) PyProof.Rows.boot_sorted (by rfl) Y.n_sorted (da_cons (de_var 5) da_nil)) da_nil)))))))))
theorem sc_l_told : FnScope ["room", "initial", "happened", "gone", "named", "found"] ["room", "initial", "happened", "gone", "named"] (defScope s_l_told) := ⟨rfl, rfl, rfl, by decide +kernel, rfl, by decide +kernel, by decide +kernel⟩
def g_l_told : Dn.Env → SOut :=
    (dSeq (dSet 5 (dC .non))
    (dSeq (dTry (dIfS (dTru (dVar 4)) (dSet 5 (dCallK f_replay [0, 1, 2, 3] (dCons (dVar 0) (dCons (dVar 1) (dCons (dVar 2) (dCons (dVar 3) dNil)))))) (dSet 5 (dCall f_replay (dCons (dVar 0) (dCons (dVar 1) (dCons (dVar 2) (dCons (dVar 3) dNil))))))) ((mTab [("InvalidCapacity", false), ("InvalidHistory", true), ("InvalidLog", false), ("InvalidShelf", false)], (dSet 5 (dC .non))) :: []))
    (dRet (dVar 5))))
def f_l_told : List D → Out D := fnD 6 5 (fun i => [0, 1, 2, 3, 4].contains i) g_l_told
theorem c_l_told (Y : Fx K mg) : Cal P w K mg base 6 5 "_law_told" s_l_told [] ["room", "initial", "happened", "gone", "named"] f_l_told := cal_at Y.d_l_told sc_l_told rfl rfl fun f0 cdv0 A0 outer0 s00 H00 E0 Z =>
    (dss_cons (ds_set 5 Z de_non)
    (dss_cons (ds_try rfl rfl tk_def (fun W1 pn1 xe1 t1 p1 => (dss_one (ds_if (dt_tru (de_var 4)) (dss_one (ds_set 5 (Z.tr t1 p1) (de_callK (ks := ["capacity", "start", "log", "evicted"]) (q := [0, 1, 2, 3]) (Z.tr t1 p1) (c_replay Y) (by rfl) (dk_cons (de_var 0) (dk_cons (de_var 1) (dk_cons (de_var 2) (dk_cons (de_var 3) dk_nil)))) (dcons_len (dcons_len (dcons_len (dcons_len dnil_len)))) (fun _ _ _ _ _ _ ws h => match ws, h with | [_, _, _, _], _ => rfl) (fun ds h => match ds, h with | [_, _, _, _], _ => rfl)))) (dss_one (ds_set 5 (Z.tr t1 p1) (de_call (Z.tr t1 p1) (c_replay Y) (by rfl) (da_cons (de_var 0) (da_cons (de_var 1) (da_cons (de_var 2) (da_cons (de_var 3) da_nil)))) (dcons_len (dcons_len (dcons_len (dcons_len dnil_len)))))))))) (.cons rfl (by decide) Y.e_InvalidHistory (mt_cons Y.s_InvalidCapacity_InvalidHistory (mt_cons Y.s_InvalidHistory_InvalidHistory (mt_cons Y.s_InvalidLog_InvalidHistory (mt_cons Y.s_InvalidShelf_InvalidHistory mt_nil)))) (fun _ _ _ => (dss_one (ds_setN 5 Z.nd de_non))) .nil))
    (dss_one (ds_ret (de_var 5)))))
theorem sc_law : FnScope ["script", "k", "source", "turn", "longest", "room", "initial", "pages", "size", "happened", "gone", "contents", "row", "thing", "before", "found", "again", "one"] ["script"] (defScope s_law) := ⟨rfl, rfl, rfl, by decide +kernel, rfl, by decide +kernel, by decide +kernel⟩
def g_law : Dn.Env → SOut :=
    (dSeq (dFor (dRng (dCons (dOp fMax2 (dCons (dC (.int 1)) (dCons (dOp fMin2 (dCons (dC (.int 6)) (dCons (dOp fLen (dCons (dVar 0) dNil)) dNil))) dNil))) dNil)) (gN 1) (dSeq (dSet 2 (dCall f_l_source (dCons (dVar 0) (dCons (dVar 1) dNil))))
    (dFor (dRng (dCons (dC (.int 2)) dNil)) (gN 3) (dSeq (dSet 4 (dOp fIx (dCons (dLst (dCons (dC (.int 20)) (dCons (dC (.int 125)) dNil))) (dCons (dCallM f_l_draw (dCons (dVar 2) (dCons (dC (.int 2)) dNil))) dNil))))
    (dSeq (dAsg (dCallM f_l_setup (dCons (dVar 2) (dCons (dOp fIx (dCons (dLst (dCons (dC (.int 6)) (dCons (dC (.int 60)) dNil))) (dCons (dCallM f_l_draw (dCons (dVar 2) (dCons (dC (.int 2)) dNil))) dNil))) (dCons (dVar 4) dNil)))) (gT 4 (gsCons (gN 5) (gsCons (gN 6) (gsCons (gN 7) (gsCons (gN 8) gsNil))))))
    (dSeq (dAsg (dCallM f_l_run (dCons (dVar 2) (dCons (dVar 5) (dCons (dVar 6) (dCons (dVar 7) (dCons (dVar 8) dNil)))))) (gT 3 (gsCons (gN 9) (gsCons (gN 10) (gsCons (gN 11) gsNil)))))
    (dSeq (dIfS (dB (dOp fNe (dCons (dCall f_l_told (dCons (dVar 5) (dCons (dVar 6) (dCons (dVar 9) (dCons (dVar 10) (dCons (dC (.bl false)) dNil)))))) (dCons (dLc (dItems (dVar 11)) (gN 17) (fun env => .ok true env) (dOp fTupOf (dCons (dOp fSortedA (dCons (dVar 17) dNil)) dNil)) [17]) dNil)))) (dRet (dC (.bl false))) dSkip)
    (dSeq (dThaw 9 (dThaw 10 (dFor (dItems (dLst (dCons (dVar 9) (dCons (dCallM f_l_bent (dCons (dVar 2) (dCons (dVar 9) dNil))) dNil)))) (gN 12) (dFor (dItems (dOpF fAdd (dCons (dLst (dCons (dVar 10) dNil)) (dCons (dCallM f_l_changed (dCons (dVar 2) (dCons (dVar 10) (dCons (dVar 7) dNil)))) dNil)))) (gN 13) (dSeq (dSet 14 (dOp fReprX (dCons (dLst (dCons (dVar 6) (dCons (dVar 12) (dCons (dVar 13) dNil)))) dNil)))
    (dSeq (dSet 15 (dCall f_l_told (dCons (dVar 5) (dCons (dVar 6) (dCons (dVar 12) (dCons (dVar 13) (dCons (dOp fEq (dCons (dVar 3) (dCons (dC (.int 1)) dNil))) dNil)))))))
    (dSeq (dIfS (dB (dOp fNe (dCons (dOp fReprX (dCons (dVar 15) dNil)) (dCons (dOp fReprX (dCons (dCall f_l_followed (dCons (dVar 5) (dCons (dVar 6) (dCons (dVar 12) (dCons (dVar 13) dNil))))) dNil)) dNil)))) (dRet (dC (.bl false))) dSkip)
    (dIfS (dB (dOp fNe (dCons (dOp fReprX (dCons (dLst (dCons (dVar 6) (dCons (dVar 12) (dCons (dVar 13) dNil)))) dNil)) (dCons (dVar 14) dNil)))) (dRet (dC (.bl false))) dSkip))))))))
    (dSeq (dSet 16 (dCall f_replay (dCons (dVar 5) (dCons (dVar 6) (dCons (dVar 9) (dCons (dVar 10) dNil))))))
    (dSeq (dExpr (dMut 16 mAppend (dCons (dTup dNil) dNil)))
    (dSeq (dIfS (dB (dOp fNe (dCons (dCall f_replay (dCons (dVar 5) (dCons (dVar 6) (dCons (dVar 9) (dCons (dVar 10) dNil))))) (dCons (dSl (dVar 16) dNoP (dPart (dOp fNeg (dCons (dC (.int 1)) dNil)))) dNil)))) (dRet (dC (.bl false))) dSkip)
    (dSeq (dExpr (dMut 10 mAppend (dCons (dC (.str "a")) dNil)))
    (dIfS (dB (dOp fNotN (dCons (dCall f_l_told (dCons (dVar 5) (dCons (dVar 6) (dCons (dVar 9) (dCons (dVar 10) (dCons (dC (.bl false)) dNil)))))) (dCons (dC .non) dNil)))) (dRet (dC (.bl false))) dSkip)))))))))))))
    (dRet (dOp fEq (dCons (dCall f_replay (dCons (dC (.int 1)) (dCons (dTup dNil) (dCons (dLst (dCons (dTup (dCons (dC (.str "miss")) (dCons (dC (.str "a")) dNil))) (dCons (dTup (dCons (dC (.str "miss")) (dCons (dC (.str "b")) dNil))) dNil))) (dCons (dLst (dCons (dC (.str "a")) dNil)) dNil))))) (dCons (dLst (dCons (dTup dNil) (dCons (dTup (dCons (dC (.str "a")) dNil)) (dCons (dTup (dCons (dC (.str "b")) dNil)) dNil)))) dNil)))))
def f_law : List D → Out D := fnD 18 1 (fun i => [0].contains i) g_law
theorem c_law (Y : Fx K mg) : Cal P w K mg base 7 1 "law" s_law [] ["script"] f_law := cal_at Y.d_law sc_law rfl rfl fun f0 cdv0 A0 outer0 s00 H00 E0 Z =>
    (dss_cons (ds_for Z (di_rng1 (by rfl) Y.n_range (de_bi (b_max2 Z.calm) PyProof.Rows.boot_max (by rfl) Y.n_max (da_cons de_int (da_cons (de_bi (b_min2 Z.calm) PyProof.Rows.boot_min (by rfl) Y.n_min (da_cons de_int (da_cons (de_bi b_len PySem.boot_len (by rfl) Y.n_len (da_cons (de_var 0) da_nil)) da_nil))) da_nil)))) (dg_name 1 Z.nd) (dss_cons (ds_set 2 Z (de_call Z (c_l_source Y) (by rfl) (da_cons (de_var 0) (da_cons (de_var 1) da_nil)) (dcons_len (dcons_len dnil_len))))
    (dss_one (ds_for Z (di_rng1 (by rfl) Y.n_range de_int) (dg_name 3 Z.nd) (dss_cons (ds_set 4 Z (de_ix Z (de_lst (da_cons de_int (da_cons de_int da_nil))) (de_callM Z (c_l_draw Y) (by rfl) (da_cons (de_var 2) (da_cons de_int da_nil)) (dcons_len (dcons_len dnil_len))) (fun _ _ => rfl)))
    (dss_cons (ds_asg (de_callM Z (c_l_setup Y) (by rfl) (da_cons (de_var 2) (da_cons (de_ix Z (de_lst (da_cons de_int (da_cons de_int da_nil))) (de_callM Z (c_l_draw Y) (by rfl) (da_cons (de_var 2) (da_cons de_int da_nil)) (dcons_len (dcons_len dnil_len))) (fun _ _ => rfl)) (da_cons (de_var 4) da_nil))) (dcons_len (dcons_len (dcons_len dnil_len)))) (dg_tup 4 _ Z (dgs_cons (dg_name 5 Z.nd) (dgs_cons (dg_name 6 Z.nd) (dgs_cons (dg_name 7 Z.nd) (dgs_cons (dg_name 8 Z.nd) dgs_nil))))))
    (dss_cons (ds_asg (de_callM Z (c_l_run Y) (by rfl) (da_cons (de_var 2) (da_cons (de_var 5) (da_cons (de_var 6) (da_cons (de_var 7) (da_cons (de_var 8) da_nil))))) (dcons_len (dcons_len (dcons_len (dcons_len (dcons_len dnil_len)))))) (dg_tup 3 _ Z (dgs_cons (dg_name 9 Z.nd) (dgs_cons (dg_name 10 Z.nd) (dgs_cons (dg_name 11 Z.nd) dgs_nil)))))
    (dss_cons (ds_if (dt_cmp (c_ne Z) (de_call Z (c_l_told Y) (by rfl) (da_cons (de_var 5) (da_cons (de_var 6) (da_cons (de_var 9) (da_cons (de_var 10) (da_cons de_bl da_nil))))) (dcons_len (dcons_len (dcons_len (dcons_len (dcons_len dnil_len)))))) (de_lc [("one", 17)] Z (di_any (de_var 11)) (by rfl) (fun s0 H0 C0 cl0 fp0 => (dg_name 17 (Z.blk s0 H0 C0 cl0 fp0).nd)) (fun _ _ _ _ _ => dts_nil) (fun s0 H0 C0 cl0 fp0 => (de_ty b_tuple PyProof.Rows.boot_tuple (by rfl) Y.n_tuple (da_cons (de_bi (b_sortedA (Z.blk s0 H0 C0 cl0 fp0)) PyProof.Rows.boot_sorted (by rfl) Y.n_sorted (da_cons (de_var 17) da_nil)) da_nil)))) (nomark _)) (dss_one (ds_ret de_bl)) dss_nil)
    (dss_cons (ds_thaw 9 (ds_thaw 10 (ds_for Z (di_any (de_lst (da_cons (de_var 9) (da_cons (de_callM Z (c_l_bent Y) (by rfl) (da_cons (de_var 2) (da_cons (de_var 9) da_nil)) (dcons_len (dcons_len dnil_len))) da_nil)))) (dg_name 12 Z.nd) (dss_one (ds_for Z (di_any (de_addF (de_lst (da_cons (de_var 10) da_nil)) (de_callM Z (c_l_changed Y) (by rfl) (da_cons (de_var 2) (da_cons (de_var 10) (da_cons (de_var 7) da_nil))) (dcons_len (dcons_len (dcons_len dnil_len)))))) (dg_name 13 Z.nd) (dss_cons (ds_set 14 Z (de_bi (b_reprX Z) PyProof.Rows.boot_repr (by rfl) Y.n_repr (da_cons (de_lst (da_cons (de_var 6) (da_cons (de_var 12) (da_cons (de_var 13) da_nil)))) da_nil)))
    (dss_cons (ds_set 15 Z (de_call Z (c_l_told Y) (by rfl) (da_cons (de_var 5) (da_cons (de_var 6) (da_cons (de_var 12) (da_cons (de_var 13) (da_cons (de_cmp (c_eq Z) (de_var 3) de_int (nomark _)) da_nil))))) (dcons_len (dcons_len (dcons_len (dcons_len (dcons_len dnil_len)))))))
    (dss_cons (ds_if (dt_cmp (c_ne Z) (de_bi (b_reprX Z) PyProof.Rows.boot_repr (by rfl) Y.n_repr (da_cons (de_var 15) da_nil)) (de_bi (b_reprX Z) PyProof.Rows.boot_repr (by rfl) Y.n_repr (da_cons (de_call Z (c_l_followed Y) (by rfl) (da_cons (de_var 5) (da_cons (de_var 6) (da_cons (de_var 12) (da_cons (de_var 13) da_nil)))) (dcons_len (dcons_len (dcons_len (dcons_len dnil_len))))) da_nil)) (nomark _)) (dss_one (ds_ret de_bl)) dss_nil)
    (dss_one (ds_if (dt_cmp (c_ne Z) (de_bi (b_reprX Z) PyProof.Rows.boot_repr (by rfl) Y.n_repr (da_cons (de_lst (da_cons (de_var 6) (da_cons (de_var 12) (da_cons (de_var 13) da_nil)))) da_nil)) (de_var 14) (nomark _)) (dss_one (ds_ret de_bl)) dss_nil))))))))))
    (dss_cons (ds_set 16 Z (de_call Z (c_replay Y) (by rfl) (da_cons (de_var 5) (da_cons (de_var 6) (da_cons (de_var 9) (da_cons (de_var 10) da_nil)))) (dcons_len (dcons_len (dcons_len (dcons_len dnil_len))))))
    (dss_cons (ds_expr (de_append 16 (da_cons (de_tup da_nil) da_nil)))
    (dss_cons (ds_if (dt_cmp (c_ne Z) (de_call Z (c_replay Y) (by rfl) (da_cons (de_var 5) (da_cons (de_var 6) (da_cons (de_var 9) (da_cons (de_var 10) da_nil)))) (dcons_len (dcons_len (dcons_len (dcons_len dnil_len))))) (de_sl (de_var 16) dp_none (dp_some (de_neg de_int))) (nomark _)) (dss_one (ds_ret de_bl)) dss_nil)
    (dss_cons (ds_expr (de_append 10 (da_cons de_str da_nil)))
    (dss_one (ds_if (dt_cmp c_notN (de_call Z (c_l_told Y) (by rfl) (da_cons (de_var 5) (da_cons (de_var 6) (da_cons (de_var 9) (da_cons (de_var 10) (da_cons de_bl da_nil))))) (dcons_len (dcons_len (dcons_len (dcons_len (dcons_len dnil_len)))))) de_non (nomark _)) (dss_one (ds_ret de_bl)) dss_nil)))))))))))))))
    (dss_one (ds_ret (de_cmp (c_eq Z) (de_call Z (c_replay Y) (by rfl) (da_cons de_int (da_cons (de_tup da_nil) (da_cons (de_lst (da_cons (de_tup (da_cons de_str (da_cons de_str da_nil))) (da_cons (de_tup (da_cons de_str (da_cons de_str da_nil))) da_nil))) (da_cons (de_lst (da_cons de_str da_nil)) da_nil)))) (dcons_len (dcons_len (dcons_len (dcons_len dnil_len))))) (de_lst (da_cons (de_tup da_nil) (da_cons (de_tup (da_cons de_str da_nil)) (da_cons (de_tup (da_cons de_str da_nil)) da_nil)))) (nomark _)))))
end
end Kx
namespace Kx
open PySem PySem.Spec L2 Dn
theorem log_lt {n k : Nat} (h : n < 2 ^ k) (hk : 0 < k) : n.log2 < k := by
  by_cases z : n = 0
  · subst z; simpa using hk
  · exact (Nat.log2_lt z).mpr h
theorem powOk {i : Int} (h0 : 0 ≤ i) (h : i < 10 ^ 60) : CPowW i 3 := by
  have := log_lt (n := i.natAbs) (k := 200) (by have : (10 : Int) ^ 60 < 2 ^ 200 := by decide
                                                omega) (by decide)
  exact ⟨by decide, by omega⟩
theorem mulOk {i j : Int} (hi : i.natAbs < 2 ^ 200) (hj : j.natAbs < 2 ^ 200) : CMulW i j := by
  have := log_lt hi (by decide)
  have := log_lt hj (by decide)
  unfold CMulW
  omega
theorem divOk {i j : Int} (h : 0 < j) (hj : j ≤ 10 ^ 9) : CDivW i j := ⟨h, by
  have := log_lt (n := j.natAbs) (k := 200) (by have : (10 : Int) ^ 9 < 2 ^ 200 := by decide
                                                omega) (by decide)
  omega⟩
def N1 : Int := 10 ^ (38 : Int).toNat + 133
def N2 : Int := 10 ^ (37 : Int).toNat + 43
def mix1 (b c : Int) : Int := (b + 86028121 * c) ^ (3 : Int).toNat % N1
def mix2 (b c : Int) : Int := (mix1 b c + 32452843 * c) ^ (3 : Int).toNat % N2
theorem n1 (env : Dn.Env) : dOp fAdd (dCons (dOp fPow (dCons (dC (D.int 10)) (dCons (dC (D.int 38)) dNil))) (dCons (dC (D.int 133)) dNil)) env = .ok (.int N1) env := by
  have e1 : CPowW 10 38 := by decide
  simp [-Int.reducePow, e1, N1, -Int.reduceToNat]
theorem n2 (env : Dn.Env) : dOp fAdd (dCons (dOp fPow (dCons (dC (D.int 10)) (dCons (dC (D.int 37)) dNil))) (dCons (dC (D.int 43)) dNil)) env = .ok (.int N2) env := by
  have e1 : CPowW 10 37 := by decide
  simp [-Int.reducePow, e1, N2, -Int.reduceToNat]
theorem draw1 (a b c bd : Int) (hb : 0 < bd) (ha : 0 < a) (hd : CDivW a bd) : f_l_draw [.own [.int a, .int b, .int c], .int bd] = .ok (.int (a % bd)) [some (.own [.int (a / bd), .int b, .int c]), some (.int bd)] := by
  simp [f_l_draw, fnD, g_l_draw, hb, ha, hd, atI, ixN, outsOf, List.range, List.range.loop]
theorem draw2 (a b c bd : Int) (hb : 0 < bd) (ha : ¬ 0 < a) (p : 0 < N1) (p' : 0 < N2) (m1 : CMulW 86028121 (c + 1)) (p1 : CPowW (b + 86028121 * (c + 1)) 3) (m2 : CMulW 32452843 (c + 1)) (p2 : CPowW (mix1 b (c + 1) + 32452843 * (c + 1)) 3) :
    f_l_draw [.own [.int a, .int b, .int c], .int bd] = .ok (.int (mix2 b (c + 1) / 65537 % bd)) [some (.own [.int a, .int b, .int (c + 1)]), some (.int bd)] := by
  have e3 : ∀ i, CDivW i 65537 := fun i => divOk (by decide) (by decide)
  have k1 := n1; have k2 := n2
  have q1 : (b + 86028121 * (c + 1)) ^ 3 % N1 = mix1 b (c + 1) := rfl
  have q2 : (mix1 b (c + 1) + 32452843 * (c + 1)) ^ 3 % N2 = mix2 b (c + 1) := rfl
  generalize mix1 b (c + 1) = u at *
  generalize mix2 b (c + 1) = v at *
  generalize N1 = M1 at *
  generalize N2 = M2 at *
  simp (config := { implicitDefEqProofs := false }) [↓k1, ↓k2, f_l_draw, fnD, g_l_draw, hb, ha, atI, ixN, outsOf, List.range, List.range.loop, m1, p1, m2, e3, p2, p, p', q1, q2]
/-- a source of draws, good for n more -/
def Sr (n : Nat) (s : D) : Prop := ∃ a b c : Int, s = .own [.int a, .int b, .int c] ∧ 0 ≤ a ∧ 0 ≤ b ∧ b ≤ 10 ^ 41 ∧ 0 ≤ c ∧ c + n ≤ 10 ^ 9
theorem Sr.mono {n m : Nat} {s : D} (h : Sr n s) (k : m ≤ n) : Sr m s := by
  obtain ⟨a, b, c, e, h1, h2, h3, h4, h5⟩ := h
  exact ⟨a, b, c, e, h1, h2, h3, h4, by omega⟩
theorem Sr.own {n : Nat} {s : D} (h : Sr n s) : ∃ xs, s = .own xs ∧ noBorL xs = true ∧ plainL xs = true ∧ noLstL xs = true ∧ borsL xs = [] := by
  obtain ⟨a, b, c, e, _⟩ := h
  exact ⟨_, e, by simp, by simp, by simp, by simp⟩
theorem draw {n : Nat} {s : D} {bd : Int} (h : Sr (n + 1) s) (h0 : 0 < bd) (h1 : bd ≤ 10 ^ 9) : ∃ (r : Nat) (s' : D), f_l_draw [s, .int bd] = .ok (.int r) [some s', some (.int bd)] ∧ (r : Int) < bd ∧ Sr n s' := by
  obtain ⟨a, b, c, rfl, ha, hb, hb2, hc, hc2⟩ := h
  by_cases z : 0 < a
  · have r0 := Int.emod_nonneg a (by omega : bd ≠ 0)
    refine ⟨(a % bd).toNat, _, ?_, ?_, a / bd, b, c, rfl, Int.ediv_nonneg ha (by omega), hb, hb2, hc, by omega⟩
    · rw [draw1 a b c bd h0 z (divOk h0 h1), Int.toNat_of_nonneg r0]
    · rw [Int.toNat_of_nonneg r0]
      exact Int.emod_lt_of_pos a h0
  · have c1 : (c + 1).natAbs < 2 ^ 200 := by
      have : (10 : Int) ^ 9 < 2 ^ 200 := by decide
      omega
    have q1 : 0 ≤ mix1 b (c + 1) ∧ mix1 b (c + 1) < N1 := ⟨Int.emod_nonneg _ (by decide), Int.emod_lt_of_pos _ (by decide)⟩
    have q2 : N1 < 10 ^ 39 := by decide
    have r0 := Int.emod_nonneg (mix2 b (c + 1) / 65537) (by omega : bd ≠ 0)
    refine ⟨(mix2 b (c + 1) / 65537 % bd).toNat, _, ?_, ?_, a, b, c + 1, rfl, ha, hb, hb2, by omega, by omega⟩
    · rw [draw2 a b c bd h0 z (by decide) (by decide) (mulOk (by decide) c1) (powOk (by omega) (by omega)) (mulOk (by decide) c1) (powOk (by omega) (by omega)), Int.toNat_of_nonneg r0]
    · rw [Int.toNat_of_nonneg r0]
      exact Int.emod_lt_of_pos _ h0
end Kx
namespace Kx
open PySem PySem.Spec L2 Dn
def lets : Str := "abcdefghijklmnopqrstuvwxyz"
/-- a page's name -/
def pageB (x : Str) : Bool := decide (1 ≤ x.length) && decide (x.length ≤ 4) && x.cps.toList.all fun n => decide (n ∈ lets.cps.toList)
theorem rep1 (a : Option D) : List.replicate 1 a = [a] := rfl
theorem in_letter (n : Nat) (e : Dn.Env) : fInB e (.str ⟨#[n]⟩) (.str lets) = some (decide (n ∈ lets.cps.toList)) := rfl
def letG : D → D
  | .str y => .bl (y.cps.toList.all fun n => decide (n ∈ lets.cps.toList))
  | _ => .non
theorem letG1 (n : Nat) : letG (.str ⟨#[n]⟩) = .bl (decide (n ∈ lets.cps.toList)) := by simp [letG]
theorem is_page_ok (x : Str) (h : x.length ≤ 4) : f_is_page [.str x] = .ok (.bl (pageB x)) [some (.str x)] := by
  have hz : x.length ≤ 16777216 := Nat.le_trans h (by decide)
  by_cases h1 : 1 ≤ x.length
  · have c1 : fLe [some (D.str x), none] [.int 1, .int (x.length : Nat)] = some (.bl true) := by
      simp
      omega
    have h4 : (x.length : Int) ≤ 4 := by omega
    obtain ⟨e, q, w⟩ := lc_map (t := gN 1) (g := dOp fIn (dCons (dVar 1) (dCons (dC (.str "abcdefghijklmnopqrstuvwxyz")) dNil))) (own := [1]) (W := [some (.str x), none]) letG (x.cps.toList.map fun n => .str ⟨#[n]⟩) [some (.str x), none] rfl
      (by rw [List.length_map]; have : x.cps.toList.length = x.length := by simp [Str.length]
          have := z_size
          omega) (fun d hd => by
        obtain ⟨n, _, rfl⟩ := List.mem_map.mp hd
        have e0 : ∀ e, fIn e [.str ⟨#[n]⟩, .str lets] = some (.bl (decide (n ∈ lets.cps.toList))) := fun e => rfl
        refine ⟨[some (.str x), some (.str ⟨#[n]⟩)], by simp, [some (.str x), some (.str ⟨#[n]⟩)], ?_, by simp [letG1], by simp [wipeE], by simp [wipeE]⟩
        rw [letG1]
        have e1 := e0 [some (.str x), some (.str ⟨#[n]⟩)]
        unfold lets at e1 ⊢
        simp [e1])
    have e2 : ((x.cps.toList.map fun n => D.str ⟨#[n]⟩).map fun d => frz (letG d)) = (x.cps.toList.map fun n => decide (n ∈ lets.cps.toList)).map D.bl := by
      rw [List.map_map, List.map_map]
      refine List.map_congr_left fun n _ => ?_
      show frz (letG (.str ⟨#[n]⟩)) = _
      rw [letG1]
      rfl
    rw [e2] at q
    have pl : plainL (x.cps.toList.map fun n => D.str ⟨#[n]⟩) = true := by
      generalize x.cps.toList = l
      induction l with
      | nil => rfl
      | cons n l ih => simpa using ih
    have ep : pageB x = (x.cps.toList.map fun n => decide (n ∈ lets.cps.toList)).all id := by
      unfold pageB
      rw [decide_eq_true h1, decide_eq_true h, List.all_map]
      rfl
    rw [ep]
    generalize (x.cps.toList.map fun n => decide (n ∈ lets.cps.toList)) = bs at q
    simp [f_is_page, fnD, g_is_page, outsOf, List.range, List.range.loop, hz, z_cht _ _ _ _ _ _ c1, isiB, h4, pl, q, mapM_bl, w]
  · have h1f : ¬ (1 : Int) ≤ x.length := by omega
    have c1 : fLe [some (D.str x), none] [.int 1, .int (x.length : Nat)] = some (.bl false) := by simp; omega
    simp [f_is_page, fnD, g_is_page, outsOf, List.range, List.range.loop, hz, z_chf _ _ _ _ _ _ c1, isiB, pageB, h1]

theorem is_integer_ok (n m : Int) : f_is_integer [.int n, .int m] = .ok (.bl (decide (m ≤ n))) [some (.int n), some (.int m)] := by
  simp [f_is_integer, fnD, g_is_integer, outsOf, List.range, List.range.loop, isiB, fIsN, isNonD]
theorem plain_strs (xs : List Str) : plainL (xs.map D.str) = true := by
  induction xs with
  | nil => rfl
  | cons x xs ih => simpa using ih
theorem strsD_map : ∀ xs : List Str, strsD (xs.map D.str) = some xs
  | [] => rfl
  | x :: xs => by
    have := strsD_map xs
    unfold strsD at this ⊢
    rw [List.map_cons, List.mapM_cons, this]
    rfl
theorem difs_nodup : ∀ (xs acc : List Str), (acc ++ xs).Nodup → xs.foldl PyProof.Rows.step_dedup acc = acc ++ xs
  | [], acc, _ => by simp
  | x :: xs, acc, h => by
    have hx : acc.any (· == x) = false := by
      rw [List.any_eq_false]
      intro y hy e
      rw [beq_iff_eq] at e
      subst e
      exact (List.nodup_append.mp h).2.2 y hy y List.mem_cons_self rfl
    rw [List.foldl_cons]
    unfold PyProof.Rows.step_dedup
    rw [hx]
    simp only [Bool.false_eq_true, if_false]
    have e : acc ++ x :: xs = (acc ++ [x]) ++ xs := by simp
    rw [e] at h ⊢
    exact difs_nodup xs (acc ++ [x]) h
theorem difs_of {xs : List Str} (h : xs.Nodup) : difs xs = xs := difs_nodup xs [] h
/-- a shelf: other pages at each place -/
def Shelf (xs : List Str) : Prop := xs.Nodup ∧ xs.length ≤ 1000 ∧ ∀ x ∈ xs, pageB x = true
theorem page_len {x : Str} (h : pageB x = true) : x.length ≤ 4 := by
  simp only [pageB, Bool.and_eq_true, decide_eq_true_eq] at h
  exact h.1.2
theorem is_shelf_ok {xs : List Str} (h : Shelf xs) : f_is_shelf [.tup (xs.map D.str)] = .ok (.bl true) [some (.tup (xs.map D.str))] := by
  have pl := plain_strs xs
  obtain ⟨e, q, w⟩ := lc_map (t := gN 1) (g := dCall f_is_page (dCons (dVar 1) dNil)) (own := [1]) (W := [some (.tup (xs.map D.str)), none]) (fun _ => .bl true) (xs.map D.str) [some (.tup (xs.map D.str)), none] rfl
    (by rw [List.length_map]; exact Nat.le_trans h.2.1 (by decide)) (fun d hd => by
      obtain ⟨x, hx, rfl⟩ := List.mem_map.mp hd
      have hp := h.2.2 x hx
      refine ⟨[some (.tup (xs.map D.str)), some (.str x)], by simp, [some (.tup (xs.map D.str)), some (.str x)], ?_, by simp, by simp [wipeE], by simp [wipeE]⟩
      simp [is_page_ok x (page_len hp), hp])
  have e2 : ((xs.map D.str).map fun d => frz ((fun _ => D.bl true) d)) = (List.replicate xs.length true).map D.bl := by
    rw [List.map_map, List.map_replicate]
    exact List.map_const' ..
  rw [e2] at q
  have e3 : ∀ n : Nat, (List.replicate n true).all id = true := fun n => by simp
  have fz := frzL_plain _ pl
  have sd := strsD_map xs
  generalize hD : xs.map D.str = ds at *
  have len : ds.length = xs.length := by rw [← hD, List.length_map]
  have hb := e3 xs.length
  generalize List.replicate xs.length true = bs at q hb
  have h4 : xs.length ≤ 4000 := Nat.le_trans h.2.1 (by decide)
  have nb := plainL_noBor ds pl
  simp [f_is_shelf, fnD, g_is_shelf, outsOf, List.range, List.range.loop, isiB, pl, nb, q, w, fz, sd, difs_of h.1, hb, h4, len]

/-- an event -/
def ev (m : Bool) (p : Str) : D := .tup [.str (if m then "miss" else "hit"), .str p]
theorem is_event_ok {m : Bool} {p : Str} (h : pageB p = true) : f_is_event [ev m p] = .ok (.bl true) [some (ev m p)] := by
  have e1 : ∀ e : Dn.Env, fIn e [D.str (if m then "miss" else "hit"), .tup [.str "hit", .str "miss"]] = some (.bl true) := fun e => by cases m <;> rfl
  unfold ev
  generalize (if m = true then ("miss" : Str) else "hit") = w at *
  simp [f_is_event, fnD, g_is_event, outsOf, List.range, List.range.loop, isiB, atI, ixN, e1, is_page_ok p (page_len h), h]

theorem plain_ev {m : Bool} {p : Str} : plain (ev m p) = true := by simp [ev]
def evs (l : List (Bool × Str)) : List D := l.map fun q => ev q.1 q.2
theorem plain_evs (l : List (Bool × Str)) : plainL (evs l) = true := by
  unfold evs
  induction l with
  | nil => rfl
  | cons q l ih => simp [plain_ev, ih]
/-- a log of good pages -/
def Log (l : List (Bool × Str)) : Prop := l.length ≤ 1000 ∧ ∀ q ∈ l, pageB q.2 = true
theorem is_log_ok {l : List (Bool × Str)} (h : Log l) : f_is_log [.lst (evs l)] = .ok (.bl true) [some (.lst (evs l))] := by
  have pl := plain_evs l
  obtain ⟨e, q, w⟩ := lc_map (t := gN 1) (g := dCall f_is_event (dCons (dVar 1) dNil)) (own := [1]) (W := [some (.lst (evs l)), none]) (fun _ => .bl true) (evs l) [some (.lst (evs l)), none] rfl
    (by unfold evs; rw [List.length_map]; exact Nat.le_trans h.1 (by decide)) (fun d hd => by
      obtain ⟨x, hx, rfl⟩ := List.mem_map.mp hd
      have hp := h.2 x hx
      refine ⟨[some (.lst (evs l)), some (ev x.1 x.2)], by simp, [some (.lst (evs l)), some (ev x.1 x.2)], ?_, by simp, by simp [wipeE], by simp [wipeE]⟩
      have e1 : noBor (ev x.1 x.2) = true := plain_noBor _ plain_ev
      have e2 : frz (ev x.1 x.2) = ev x.1 x.2 := frz_plain _ plain_ev
      have e3 : sub [some (D.lst (evs l)), some (ev x.1 x.2)] (ev x.1 x.2) = ev x.1 x.2 := sub_id _ e1
      have e4 : bors (ev x.1 x.2) = [] := rfl
      simp [is_event_ok hp, plain_ev, e1, e2, e3, e4])
  have e2 : ((evs l).map fun d => frz ((fun _ => D.bl true) d)) = (List.replicate l.length true).map D.bl := by
    unfold evs
    rw [List.map_map, List.map_replicate]
    exact List.map_const' ..
  rw [e2] at q
  have hb : (List.replicate l.length true).all id = true := by simp
  generalize List.replicate l.length true = bs at q hb
  have fz := frzL_plain _ pl
  have nb := plainL_noBor _ pl
  generalize evs l = ds at *
  simp [f_is_log, fnD, g_is_log, outsOf, List.range, List.range.loop, isiB, pl, nb, q, w, fz, hb]
theorem check_shelf_ok {room : Int} {xs : List Str} (hr : 1 ≤ room) (h : Shelf xs) (hl : (xs.length : Int) ≤ room) : f_check_shelf [.int room, .tup (xs.map D.str)] = .ok .non [some (.int room), some (.tup (xs.map D.str))] := by
  have k := is_shelf_ok h
  have pl := plain_strs xs
  have fz := frzL_plain _ pl
  have nb := plainL_noBor _ pl
  have len : (xs.map D.str).length = xs.length := List.length_map ..
  have sb : ∀ e : Dn.Env, subL e (xs.map D.str) = xs.map D.str := fun e => subL_id _ nb
  have bo : borsL (xs.map D.str) = [] := by
    clear k pl fz nb len sb hl h
    induction xs with
    | nil => rfl
    | cons x xs ih => simpa using ih
  generalize xs.map D.str = ds at *
  simp [f_check_shelf, fnD, g_check_shelf, outsOf, List.range, List.range.loop, is_integer_ok, hr, pl, fz, nb, sb, bo, k, len, hl, Int.not_lt.mpr hl]
theorem check_log_ok {room : Int} {xs : List Str} {l : List (Bool × Str)} (hr : 1 ≤ room) (h : Shelf xs) (hl : (xs.length : Int) ≤ room) (h2 : Log l) :
    f_check_log [.int room, .tup (xs.map D.str), .lst (evs l)] = .ok .non [some (.int room), some (.tup (xs.map D.str)), some (.lst (evs l))] := by
  have k := check_shelf_ok hr h hl
  have k2 := is_log_ok h2
  have t1 := tame (d := .tup (xs.map D.str)) (by simpa using plain_strs xs)
  have t2 := tame (d := .lst (evs l)) (by simpa using plain_evs l)
  generalize D.tup (xs.map D.str) = T at *
  generalize D.lst (evs l) = L at *
  simp [f_check_log, fnD, g_check_log, outsOf, List.range, List.range.loop, k, k2, t1, t2]
end Kx
namespace Kx
open PySem PySem.Spec L2 Dn
/-- the sizes behind each event -/
def szs (room : Int) : Int → List (Bool × Str) → List Int
  | _, [] => []
  | n, q :: l => (if n + (if q.1 then 1 else 0) < room then n + (if q.1 then 1 else 0) else room) :: szs room (if n + (if q.1 then 1 else 0) < room then n + (if q.1 then 1 else 0) else room) l
theorem szs_len (room : Int) : ∀ (l : List (Bool × Str)) (n : Int), (szs room n l).length = l.length
  | [], _ => rfl
  | q :: l, n => by simp [szs, szs_len room l]
theorem frz_ev {m : Bool} {p : Str} : frz (ev m p) = ev m p := frz_plain _ plain_ev
theorem noBor_ints (l : List Int) : noBorL (l.map D.int) = true := plainL_noBor _ (plain_ints l)
theorem eqMiss (m : Bool) : ((if m = true then ("miss" : Str) else "hit") == ("miss" : Str)) = m := by cases m <;> decide
abbrev csTgt : D → Dn.Env → Option Dn.Env := gT 2 (gsCons (gN 4) (gsCons (gN 5) gsNil))
abbrev csBody : Dn.Env → SOut := dExpr (dMut 3 mAppend (dCons (dOp fMin2 (dCons (dVar 0) (dCons (dOp fAdd (dCons (dOp fIx (dCons (dVar 3) (dCons (dOp fNeg (dCons (dC (.int 1)) dNil)) dNil))) (dCons (dOp fInt1 (dCons (dOp fEq (dCons (dVar 4) (dCons (dC (.str "miss")) dNil))) dNil)) dNil))) dNil))) dNil))
theorem cs_loop (room : Int) (T L : D) : ∀ (l : List (Bool × Str)) (acc : List Int) (n : Int) (u v : Option D), acc.length + l.length < 16777000 →
    ∃ u' v', forL csTgt csBody (evs l) [some (.int room), some T, some L, some (.own ((acc ++ [n]).map D.int)), u, v] = .nx [some (.int room), some T, some L, some (.own ((acc ++ [n] ++ szs room n l).map D.int)), u', v']
  | [], acc, n, u, v, _ => ⟨u, v, by simp [evs, forL, szs]⟩
  | q :: l, acc, n, u, v, h => by
    rw [List.length_cons] at h
    obtain ⟨u', v', ih⟩ := cs_loop room T L l (acc ++ [n]) (if n + (if q.1 then 1 else 0) < room then n + (if q.1 then 1 else 0) else room) (some (.str (if q.1 then "miss" else "hit"))) (some (.str q.2)) (by rw [List.length_append, List.length_singleton]; omega)
    refine ⟨u', v', ?_⟩
    have e0 : evs (q :: l) = ev q.1 q.2 :: evs l := rfl
    have e1 : csTgt (ev q.1 q.2) [some (.int room), some T, some L, some (.own ((acc ++ [n]).map D.int)), u, v] = some [some (.int room), some T, some L, some (.own ((acc ++ [n]).map D.int)), some (.str (if q.1 then "miss" else "hit")), some (.str q.2)] := by
      simp [csTgt, ev]
    have e2 : csBody [some (.int room), some T, some L, some (.own ((acc ++ [n]).map D.int)), some (.str (if q.1 then "miss" else "hit")), some (.str q.2)] =
        .nx [some (.int room), some T, some L, some (.own ((acc ++ [n] ++ [if n + (if q.1 then 1 else 0) < room then n + (if q.1 then 1 else 0) else room]).map D.int)), some (.str (if q.1 then "miss" else "hit")), some (.str q.2)] := by
      have e3 : atI ((acc ++ [n]).map D.int) (-1) = some (.int n) := by rw [List.map_append]; exact atI_m1 _ _
      have nb := noBor_ints (acc ++ [n])
      have len : ((acc ++ [n]).map D.int).length < 16777216 := by rw [List.length_map, List.length_append, List.length_singleton]; omega
      have nb2 : ∀ x : Int, noBorL ((acc ++ [n]).map D.int ++ [.int x]) = true := fun x => by
        have := noBor_ints (acc ++ [n] ++ [x])
        rwa [List.map_append] at this
      have em := eqMiss q.1
      rw [List.map_append (l₁ := acc ++ [n])]
      generalize (acc ++ [n]).map D.int = xs at *
      generalize (if q.1 = true then ("miss" : Str) else "hit") = w at *
      simp [csBody, e3, em, nb, len, nb2]
    rw [e0]
    unfold forL
    rw [e1]
    simp only [e2]
    rw [ih, szs]
    simp

theorem count_sizes_ok (room : Int) (xs : List Str) (l : List (Bool × Str)) (h : l.length ≤ 1000) :
    f_count_sizes [.int room, .tup (xs.map D.str), .lst (evs l)] = .ok (.own (((xs.length : Int) :: szs room xs.length l).map D.int)) [some (.int room), some (.tup (xs.map D.str)), some (.lst (evs l))] := by
  have t1 := tame (d := .tup (xs.map D.str)) (by simpa using plain_strs xs)
  have t2 := tame (d := .lst (evs l)) (by simpa using plain_evs l)
  have pl := plain_evs l
  have len : lenD (.tup (xs.map D.str)) = some xs.length := by simp
  have r1 : ∀ e, rd e (.tup (xs.map D.str)) = some (.tup (xs.map D.str)) := fun _ => rfl
  have it : itemsD (.lst (evs l)) = some (evs l) := rfl
  obtain ⟨u, v, q⟩ := cs_loop room (.tup (xs.map D.str)) (.lst (evs l)) l [] xs.length none none (by simp; omega)
  have nb := noBor_ints ((xs.length : Int) :: szs room xs.length l)
  simp only [List.nil_append, List.map_cons, List.map_nil, List.cons_append, List.map_append] at q
  rw [List.map_cons] at nb ⊢
  generalize D.tup (xs.map D.str) = T at *
  generalize D.lst (evs l) = L at *
  generalize evs l = es at *
  generalize D.int xs.length :: (szs room xs.length l).map D.int = rs at *
  simp only [csTgt, csBody] at q
  simp [f_count_sizes, fnD, g_count_sizes, outsOf, List.range, List.range.loop, t1, t2, len, r1, it, pl, q, nb]
/-- the evicting misses: number k and size n stand ahead of l -/
def lates (room : Int) : Nat → Int → List (Bool × Str) → List Int
  | _, _, [] => []
  | k, n, q :: l => (if q.1 = true ∧ n = room then [(k : Int)] else []) ++ lates room (k + 1) (if n + (if q.1 then 1 else 0) < room then n + (if q.1 then 1 else 0) else room) l

def its : Nat → List (Bool × Str) → List D
  | _, [] => []
  | k, q :: l => .tup [.int (k : Nat), ev q.1 q.2] :: its (k + 1) l
theorem its_plain : ∀ (l : List (Bool × Str)) (k : Nat), plainL (its k l) = true
  | [], _ => rfl
  | q :: l, k => by simp [its, its_plain l, plain_ev]
theorem enD_its (l : List (Bool × Str)) : enD (evs l) = its 0 l := by
  have : ∀ (l : List (Bool × Str)) (k : Nat), (evs l).mapIdx (fun i d => D.tup [.int ((i + k : Nat)), d]) = its k l := by
    intro l
    induction l with
    | nil => intro k; rfl
    | cons q l ih =>
      intro k
      have e : evs (q :: l) = ev q.1 q.2 :: evs l := rfl
      rw [e, List.mapIdx_cons, its, ← ih (k + 1), Nat.zero_add]
      congr 1
      congr 1
      funext i d
      rw [show i + 1 + k = i + (k + 1) by omega]
  exact this l 0
abbrev evTgt : D → Dn.Env → Option Dn.Env := gT 2 (gsCons (gN 4) (gsCons (gT 2 (gsCons (gN 5) (gsCons (gN 6) gsNil))) gsNil))
abbrev evTst : Dn.Env → Out Bool := dAnd (dB (dOp fEq (dCons (dVar 5) (dCons (dC (.str "miss")) dNil)))) (dB (dOp fEq (dCons (dOp fIx (dCons (dVar 3) (dCons (dVar 4) dNil))) (dCons (dVar 0) dNil))))
theorem ev_loop (room : Int) (T L : D) (S : List Int) : ∀ (l : List (Bool × Str)) (k : Nat) (n : Int) (acc : List D) (env : Dn.Env), wipeE env [4, 5, 6] = [some (.int room), some T, some L, some (.own (S.map D.int)), none, none, none] → S.drop k = n :: szs room n l → acc.length + l.length < 16777000 →
    ∃ e, lcL evTgt evTst (dVar 4) [4, 5, 6] (its k l) acc env = .ok (acc ++ (lates room k n l).map D.int) e ∧ wipeE e [4, 5, 6] = [some (.int room), some T, some L, some (.own (S.map D.int)), none, none, none]
  | [], k, n, acc, env, hw, _, _ => ⟨env, by simp [its, lcL, lates], hw⟩
  | q :: l, k, n, acc, env, hw, hS, hl => by
    rw [List.length_cons] at hl
    have hk : S[k]? = some n := by
      have := congrArg (fun z => z[0]?) hS
      simpa using this
    have hS2 : S.drop (k + 1) = (if n + (if q.1 then 1 else 0) < room then n + (if q.1 then 1 else 0) else room) :: szs room (if n + (if q.1 then 1 else 0) < room then n + (if q.1 then 1 else 0) else room) l := by
      have := congrArg (List.drop 1) hS
      rw [List.drop_drop] at this
      simpa [szs] using this
    have hx : atI (S.map D.int) (k : Nat) = some (.int n) := atI_n (by rw [List.getElem?_map, hk]; rfl)
    have em := eqMiss q.1
    unfold its lcL
    rw [hw]
    have e1 : evTgt (.tup [.int (k : Nat), ev q.1 q.2]) [some (.int room), some T, some L, some (.own (S.map D.int)), none, none, none] = some [some (.int room), some T, some L, some (.own (S.map D.int)), some (.int (k : Nat)), some (.str (if q.1 then "miss" else "hit")), some (.str q.2)] := by
      simp [evTgt, ev]
    have e2 : evTst [some (.int room), some T, some L, some (.own (S.map D.int)), some (.int (k : Nat)), some (.str (if q.1 then "miss" else "hit")), some (.str q.2)] = .ok (q.1 && decide (n = room)) [some (.int room), some T, some L, some (.own (S.map D.int)), some (.int (k : Nat)), some (.str (if q.1 then "miss" else "hit")), some (.str q.2)] := by
      generalize (if q.1 = true then ("miss" : Str) else "hit") = w at *
      generalize S.map D.int = xs at *
      cases hq : q.1 with
      | false => rw [hq] at em; simp [evTst, em]
      | true =>
        rw [hq] at em
        by_cases hn : n = room
        · subst hn; simp [evTst, em, hx]
        · simp [evTst, em, hx, hn]
    rw [e1]
    simp only [e2]
    have w2 : wipeE [some (.int room), some T, some L, some (.own (S.map D.int)), some (.int (k : Nat)), some (.str (if q.1 then "miss" else "hit")), some (.str q.2)] [4, 5, 6] = [some (.int room), some T, some L, some (.own (S.map D.int)), none, none, none] := by simp [wipeE]
    cases hc : (q.1 && decide (n = room)) with
    | true =>
      rw [Bool.and_eq_true, decide_eq_true_eq] at hc
      obtain ⟨e, r1, r2⟩ := ev_loop room T L S l (k + 1) _ (acc ++ [.int (k : Nat)]) _ w2 hS2 (by rw [List.length_append, List.length_singleton]; omega)
      refine ⟨e, ?_, r2⟩
      have e3 : dVar 4 [some (.int room), some T, some L, some (.own (S.map D.int)), some (.int (k : Nat)), some (.str (if q.1 then "miss" else "hit")), some (.str q.2)] = .ok (.int (k : Nat)) [some (.int room), some T, some L, some (.own (S.map D.int)), some (.int (k : Nat)), some (.str (if q.1 then "miss" else "hit")), some (.str q.2)] := by simp
      simp only [e3]
      rw [z_mv _ _ (by simp)]
      simp only [frz_int]
      rw [if_pos (by have := z_size; omega), r1, lates, if_pos hc]
      simp
    | false =>
      obtain ⟨e, r1, r2⟩ := ev_loop room T L S l (k + 1) _ acc _ w2 hS2 (by omega)
      refine ⟨e, ?_, r2⟩
      have hc' : ¬ (q.1 = true ∧ n = room) := fun z => by rw [z.1, z.2] at hc; simp at hc
      simp only
      rw [r1, lates, if_neg hc']
      simp
theorem evicting_ok (room : Int) (xs : List Str) (l : List (Bool × Str)) (h : l.length ≤ 1000) :
    f_evicting [.int room, .tup (xs.map D.str), .lst (evs l)] = .ok (.own ((lates room 0 xs.length l).map D.int)) [some (.int room), some (.tup (xs.map D.str)), some (.lst (evs l))] := by
  have t1 := tame (d := .tup (xs.map D.str)) (by simpa using plain_strs xs)
  have t2 := tame (d := .lst (evs l)) (by simpa using plain_evs l)
  have cs := count_sizes_ok room xs l h
  have it : seqF (.lst (evs l)) = some (evs l) := rfl
  have en := enD_its l
  have pl := its_plain l 0
  obtain ⟨e, q, w⟩ := ev_loop room (.tup (xs.map D.str)) (.lst (evs l)) ((xs.length : Int) :: szs room xs.length l) l 0 xs.length [] [some (.int room), some (.tup (xs.map D.str)), some (.lst (evs l)), some (.own (((xs.length : Int) :: szs room xs.length l).map D.int)), none, none, none] (by simp [wipeE]) rfl (by simp; omega)
  have nb := noBor_ints ((xs.length : Int) :: szs room xs.length l)
  have nb2 := noBor_ints (lates room 0 xs.length l)
  have nl : noLstL (((xs.length : Int) :: szs room xs.length l).map D.int) = true := by
    generalize (xs.length : Int) :: szs room xs.length l = z
    induction z with
    | nil => rfl
    | cons a z ih => simpa using ih
  simp only [evTgt, evTst, List.nil_append] at q
  generalize D.tup (xs.map D.str) = T at *
  generalize D.lst (evs l) = L at *
  generalize evs l = es at *
  generalize its 0 l = is at *
  generalize ((xs.length : Int) :: szs room xs.length l).map D.int = rs at *
  generalize (lates room 0 xs.length l).map D.int = ls at *
  simp [f_evicting, fnD, g_evicting, outsOf, List.range, List.range.loop, t1, t2, cs, it, en, pl, q, nb, nb2, nl, w]
end Kx
namespace Kx
open PySem PySem.Spec L2 Dn
theorem noLst_ints (l : List Int) : noLstL (l.map D.int) = true := by
  induction l with
  | nil => rfl
  | cons a l ih => simpa using ih
/-- the numbers from k on, m of them -/
def nums : Nat → Nat → List D
  | _, 0 => []
  | k, m + 1 => .int (k : Nat) :: nums (k + 1) m
theorem rngD_nums (m : Nat) : rngD 0 m = nums 0 m := by
  have : ∀ m k, (List.range m).map (fun (i : Nat) => D.int (((k + i : Nat)) : Int)) = nums k m := by
    intro m
    induction m with
    | zero => intro k; rfl
    | succ m ih =>
      intro k
      rw [List.range_succ_eq_map, List.map_cons, List.map_map, nums, ← ih (k + 1)]
      congr 1
      refine List.map_congr_left fun i _ => ?_
      show D.int ((k + (i + 1) : Nat) : Int) = D.int ((k + 1 + i : Nat) : Int)
      rw [show k + (i + 1) = k + 1 + i by omega]
  unfold rngD
  rw [← this m 0]
  refine List.map_congr_left fun i _ => ?_
  rw [Nat.zero_add, Int.zero_add]
theorem plain_nums : ∀ m k, plainL (nums k m) = true
  | 0, _ => rfl
  | m + 1, k => by simp [nums, plain_nums m]
/-! what is shown of a shelf and a log -/
theorem pyL_strs : ∀ xs : List Str, pyL (xs.map D.str) = xs.map PyData.str
  | [] => rfl
  | x :: xs => by rw [List.map_cons, pyL, pyL_strs xs]; rfl
def evP (q : Bool × Str) : PyData := .tuple [.str (if q.1 then "miss" else "hit"), .str q.2]
theorem pyL_evs : ∀ l : List (Bool × Str), pyL (evs l) = l.map evP
  | [] => rfl
  | q :: l => by
    have e : evs (q :: l) = ev q.1 q.2 :: evs l := rfl
    rw [e, pyL, pyL_evs l]
    rfl
theorem pyL_ints : ∀ l : List Int, pyL (l.map D.int) = l.map PyData.int
  | [] => rfl
  | i :: l => by rw [List.map_cons, pyL, pyL_ints l]; rfl
theorem page_sign {x : Str} (h : pageB x = true) : PyData.strOk x = true := by
  simp only [pageB, Bool.and_eq_true, List.all_eq_true, decide_eq_true_eq] at h
  unfold PyData.strOk
  rw [Array.all_eq_true']
  intro c hc
  have := h.2 c (by simpa using hc)
  have k : ∀ c ∈ lets.cps.toList, c < 0x110000 := by decide
  exact decide_eq_true (k c this)
/-- data of texts alone: may be shown -/
structure Txt (n : Nat) (ds : List PyData) : Prop where
  lay : PyData.canLayAll0 ds = true
  show' : PyData.showableAll ds = true
  nodic : PyData.hasDictAll ds = false
  short : PyData.intsShortAll 13 ds = true
  depth : PyData.depthAll ds ≤ 5
  weight : PyData.weightAll ds ≤ n
theorem txt_strs {xs : List Str} (h : ∀ x ∈ xs, pageB x = true) : Txt (5 * xs.length) (xs.map PyData.str) := by
  induction xs with
  | nil => exact ⟨rfl, rfl, rfl, rfl, by decide, by decide⟩
  | cons x xs ih =>
    have i := ih fun y hy => h y (List.mem_cons_of_mem _ hy)
    have hx := h x List.mem_cons_self
    have hl := page_len hx
    refine ⟨?_, ?_, ?_, ?_, ?_, ?_⟩
    · rw [List.map_cons, PyData.canLayAll0, i.lay, PyData.canLay0, page_sign hx]; rfl
    · rw [List.map_cons, PyData.showableAll, i.show']; rfl
    · rw [List.map_cons, PyData.hasDictAll, i.nodic]; rfl
    · rw [List.map_cons, PyData.intsShortAll, i.short]; rfl
    · rw [List.map_cons, PyData.depthAll]
      have := i.depth
      show max 0 _ ≤ 5
      omega
    · rw [List.map_cons, PyData.weightAll, PyData.weight, List.length_cons]
      have := i.weight
      have e : x.cps.size = x.length := rfl
      omega
theorem txt_evs {l : List (Bool × Str)} (h : ∀ q ∈ l, pageB q.2 = true) : Txt (11 * l.length) (l.map evP) := by
  induction l with
  | nil => exact ⟨rfl, rfl, rfl, rfl, by decide, by decide⟩
  | cons q l ih =>
    have i := ih fun y hy => h y (List.mem_cons_of_mem _ hy)
    obtain ⟨m, p⟩ := q
    have hx := h (m, p) List.mem_cons_self
    have hl := page_len hx
    have ps := page_sign hx
    refine ⟨?_, ?_, ?_, ?_, ?_, ?_⟩
    · rw [List.map_cons, PyData.canLayAll0, i.lay]
      cases m <;> simp [evP, PyData.canLay0, PyData.canLayAll0, ps] <;> decide +kernel
    · rw [List.map_cons, PyData.showableAll, i.show']; cases m <;> rfl
    · rw [List.map_cons, PyData.hasDictAll, i.nodic]; cases m <;> rfl
    · rw [List.map_cons, PyData.intsShortAll, i.short]; cases m <;> rfl
    · rw [List.map_cons, PyData.depthAll]
      have := i.depth
      have e : PyData.depth (evP (m, p)) = 1 := by cases m <;> rfl
      omega
    · rw [List.map_cons, PyData.weightAll, List.length_cons]
      have := i.weight
      have e : PyData.weight (evP (m, p)) ≤ 10 := by
        have e2 : p.cps.size ≤ 4 := hl
        cases m
        · show (3 + 1 + (p.cps.size + 1 + 0)) ≤ 10
          omega
        · show (4 + 1 + (p.cps.size + 1 + 0)) ≤ 10
          omega
      omega
end Kx
namespace Kx
open PySem PySem.Spec L2 Dn
theorem n39 (env : Dn.Env) : dOp fAdd (dCons (dOp fPow (dCons (dC (D.int 10)) (dCons (dC (D.int 39)) dNil))) (dCons (dC (D.int 7)) dNil)) env = .ok (.int (10 ^ 39 + 7)) env := by
  have e1 : CPowW 10 39 := by decide
  simp [e1]
theorem source_ok (ns : List Int) (k : Nat) (hk : k ≤ 10) : ∃ xs, f_l_source [.scr (ns.map D.int), .int k] = .ok (.own xs) [some (.scr (ns.map D.int)), some (.int k)] ∧ Sr 1000000 (.own xs) := by
  have t1 := tame (d := .scr (ns.map D.int)) (by simpa using plain_ints ns)
  have len : lenD (.scr (ns.map D.int)) = some ns.length := by simp
  have r1 : ∀ e, rd e (.scr (ns.map D.int)) = some (.scr (ns.map D.int)) := fun _ => rfl
  have ix : ∀ n, ixD (.scr (ns.map D.int)) (.int n) = plO (atI (ns.map D.int) n) := fun _ => rfl
  have p18 : CPowW 10 18 := by decide
  have m : CMulW 27644437 k := mulOk (by decide) (by
    have : (10 : Int) ≤ 2 ^ 200 := by decide
    omega)
  have k39 := n39
  have main : ∀ c : Int, dIf (dB (dOp fLt (dCons (dVar 1) (dCons (dOp fLen (dCons (dVar 0) dNil)) dNil)))) (dOp fIx (dCons (dVar 0) (dCons (dVar 1) dNil))) (dC (.int 0)) [some (.scr (ns.map D.int)), some (.int k), none] = .ok (.int c) [some (.scr (ns.map D.int)), some (.int k), none] →
      ∃ xs, f_l_source [.scr (ns.map D.int), .int k] = .ok (.own xs) [some (.scr (ns.map D.int)), some (.int k)] ∧ Sr 1000000 (.own xs) := fun c hc => by
    have b1 := Int.emod_nonneg c (show (10 : Int) ^ 39 + 7 ≠ 0 by decide)
    have b2 := Int.emod_lt_of_pos c (show (0 : Int) < 10 ^ 39 + 7 by decide)
    have b3 : (0 : Int) < 10 ^ 39 + 7 := by decide
    refine ⟨[.int (if (if c < 0 then -c else c) - 10 ^ 18 > 0 then (if c < 0 then -c else c) - 10 ^ 18 else 0), .int (c % (10 ^ 39 + 7) + 27644437 * k), .int 0], ?_, _, _, _, rfl, ?_, ?_, ?_, by decide, by decide⟩
    · generalize (10 : Int) ^ 39 + 7 = M at *
      generalize D.scr (ns.map D.int) = T at *
      simp [↓hc, ↓k39, f_l_source, fnD, g_l_source, outsOf, List.range, List.range.loop, t1, p18, m, b3]
    · split <;> omega
    · omega
    · have : (10 : Int) ^ 39 + 7 + 27644437 * 10 ≤ 10 ^ 41 := by decide
      omega
  by_cases h : k < ns.length
  · refine main ns[k] ?_
    have hx : atI (ns.map D.int) (k : Nat) = some (.int ns[k]) := atI_n (by rw [List.getElem?_map, List.getElem?_eq_getElem h]; rfl)
    have h' : (k : Int) < ns.length := by omega
    generalize D.scr (ns.map D.int) = T at *
    simp [t1, len, r1, ix, hx, h']
  · refine main 0 ?_
    have h' : ¬ (k : Int) < ns.length := by omega
    generalize D.scr (ns.map D.int) = T at *
    simp [t1, len, r1, ix, h']
end Kx
namespace Kx
open PySem PySem.Spec L2 Dn
/-! names of pages -/
def nm (k : Nat) : Str := ⟨#[97 + k / 26, 97 + k % 26]⟩
def sN (st : Nat) (k : Nat) : Str := match st with
  | 0 => ⟨#[97 + k / 26, 97 + k % 26, 122, 121]⟩
  | 1 => nm k
  | 2 => ⟨#[97 + k / 26, 97 + k % 26, 113]⟩
  | _ => ⟨#[122, 121, 97 + k / 26, 97 + k % 26]⟩
theorem lets_get : ∀ i, i < 26 → lets.cps.toList[i]? = some (97 + i) := by decide
theorem lets_has (i : Nat) (h : i < 26) : 97 + i ∈ lets.cps.toList := List.mem_of_getElem? (lets_get i h)
theorem sN_inj {st a b : Nat} (h : sN st a = sN st b) : a = b := by
  have key : a / 26 = b / 26 ∧ a % 26 = b % 26 := by
    match st, h with
    | 0, h => simp [sN] at h; omega
    | 1, h => simp [sN, nm] at h; omega
    | 2, h => simp [sN] at h; omega
    | n + 3, h => simp [sN] at h; omega
  omega
theorem sN_page (st k : Nat) (h : k < 676) : pageB (sN st k) = true := by
  have a := lets_has (k / 26) (by omega)
  have b := lets_has (k % 26) (by omega)
  have c : 122 ∈ lets.cps.toList := by decide
  have d : 121 ∈ lets.cps.toList := by decide
  have e : 113 ∈ lets.cps.toList := by decide
  match st with
  | 0 => simp only [pageB, sN, Str.length, List.size_toArray, List.length_cons, List.length_nil, List.all_cons, List.all_nil, decide_eq_true a, decide_eq_true b, decide_eq_true c, decide_eq_true d]; decide
  | 1 => simp only [pageB, sN, nm, Str.length, List.size_toArray, List.length_cons, List.length_nil, List.all_cons, List.all_nil, decide_eq_true a, decide_eq_true b]; decide
  | 2 => simp only [pageB, sN, Str.length, List.size_toArray, List.length_cons, List.length_nil, List.all_cons, List.all_nil, decide_eq_true a, decide_eq_true b, decide_eq_true e]; decide
  | n + 3 => simp only [pageB, sN, Str.length, List.size_toArray, List.length_cons, List.length_nil, List.all_cons, List.all_nil, decide_eq_true a, decide_eq_true b, decide_eq_true c, decide_eq_true d]; decide
def ten : List Str := ["a", "b", "aa", "ab", "aaaa", "aaab", "zzzz", "hit", "miss", "z"]
theorem ten_nodup : ten.Nodup := by decide +kernel
theorem ten_page : ∀ x ∈ ten, pageB x = true := by decide +kernel
theorem ten_q : ∀ x ∈ ten, x.cps.toList[2]? ≠ some 113 := by decide +kernel
/-- all names of a style -/
def allN (st count : Nat) : List Str := if st = 2 then (ten ++ (List.range count).map (sN 2)).take count else (List.range count).map (sN st)
theorem range_nodup (st count : Nat) : ((List.range count).map (sN st)).Nodup := by
  rw [List.nodup_iff_pairwise_ne, List.pairwise_map]
  exact List.Pairwise.imp (fun h e => h (sN_inj e)) List.nodup_range
theorem allN_nodup (st count : Nat) : (allN st count).Nodup := by
  unfold allN
  split
  · refine List.Nodup.sublist (List.take_sublist _ _) (List.nodup_append.mpr ⟨ten_nodup, range_nodup 2 count, fun a ha b hb e => ?_⟩)
    subst e
    obtain ⟨k, _, rfl⟩ := List.mem_map.mp hb
    exact ten_q _ ha rfl
  · exact range_nodup st count
theorem allN_page {st count : Nat} (h : count ≤ 676) : ∀ x ∈ allN st count, pageB x = true := fun x hx => by
  have r : ∀ st, ∀ x ∈ (List.range count).map (sN st), pageB x = true := fun st x hx => by
    obtain ⟨k, hk, rfl⟩ := List.mem_map.mp hx
    rw [List.mem_range] at hk
    exact sN_page st k (by omega)
  unfold allN at hx
  split at hx
  · rcases List.mem_append.mp (List.mem_of_mem_take hx) with h | h
    · exact ten_page x h
    · exact r 2 x h
  · exact r st x hx
theorem allN_len (st count : Nat) : (allN st count).length = count := by
  unfold allN
  split
  · rw [List.length_take, List.length_append, List.length_map, List.length_range]; omega
  · rw [List.length_map, List.length_range]
abbrev paBody : Dn.Env → SOut := (dSeq (dSet 6 (dOp fAdd (dCons (dOp fIx (dCons (dVar 2) (dCons (dOp fDiv (dCons (dVar 5) (dCons (dC (.int 26)) dNil))) dNil))) (dCons (dOp fIx (dCons (dVar 2) (dCons (dOp fMod (dCons (dVar 5) (dCons (dC (.int 26)) dNil))) dNil))) dNil))))
    (dExpr (dMut 4 mAppend (dCons (dOp fIx (dCons (dLst (dCons (dOp fAdd (dCons (dVar 6) (dCons (dC (.str "zy")) dNil))) (dCons (dVar 6) (dCons (dOp fAdd (dCons (dVar 6) (dCons (dC (.str "q")) dNil))) (dCons (dOp fAdd (dCons (dC (.str "zy")) (dCons (dVar 6) dNil))) dNil))))) (dCons (dVar 3) dNil))) dNil))))
theorem noBor_strs (l : List Str) : noBorL (l.map D.str) = true := plainL_noBor _ (plain_strs l)
theorem pa_loop (S C : D) (st : Nat) (hst : st < 4) : ∀ (m k : Nat) (ys : List Str) (u v : Option D), k + m ≤ 676 → ys.length + m ≤ 10000 →
    ∃ u' v', forL (gN 5) paBody (nums k m) [some S, some C, some (.str "abcdefghijklmnopqrstuvwxyz"), some (.int (st : Nat)), some (.own (ys.map D.str)), u, v] =
      .nx [some S, some C, some (.str "abcdefghijklmnopqrstuvwxyz"), some (.int (st : Nat)), some (.own ((ys ++ (List.range' k m).map (sN st)).map D.str)), u', v']
  | 0, k, ys, u, v, _, _ => ⟨u, v, by simp [nums, forL]⟩
  | m + 1, k, ys, u, v, hk, hl => by
    obtain ⟨u', v', ih⟩ := pa_loop S C st hst m (k + 1) (ys ++ [sN st k]) (some (.int (k : Nat))) (some (.str (nm k))) (by omega) (by rw [List.length_append, List.length_singleton]; omega)
    refine ⟨u', v', ?_⟩
    have e1 : atI lets.cps.toList ((k : Int) / 26) = some (97 + k / 26) := by
      have := atI_n (lets_get (k / 26) (by omega))
      simpa using this
    have e2 : atI lets.cps.toList ((k : Int) % 26) = some (97 + k % 26) := by
      have := atI_n (lets_get (k % 26) (by omega))
      simpa using this
    have dv : CDivW (k : Int) 26 := divOk (by decide) (by decide)
    have ez : lets.length = 26 := by decide
    have lb : (ys.map D.str).length < 16777216 := by rw [List.length_map]; omega
    have nb := noBor_strs ys
    have nb2 : noBorL (ys.map D.str ++ [.str (sN st k)]) = true := by
      have := noBor_strs (ys ++ [sN st k])
      rwa [List.map_append] at this
    have a0 : (⟨#[97 + k / 26]⟩ : Str) ++ (⟨#[97 + k % 26]⟩ : Str) = nm k := rfl
    have a1 : nm k ++ (Str.ofString "zy") = sN 0 k := rfl
    have a2 : nm k ++ (Str.ofString "q") = sN 2 k := rfl
    have a3 : (Str.ofString "zy") ++ nm k = sN 3 k := by
      simp only [nm, sN]
      rfl
    have l1 : (⟨#[97 + k / 26]⟩ : Str).length = 1 := rfl
    have l2 : (⟨#[97 + k % 26]⟩ : Str).length = 1 := rfl
    have l3 : (nm k).length = 2 := rfl
    have l4 : (Str.ofString "zy").length = 2 := rfl
    have l5 : (Str.ofString "q").length = 1 := rfl
    have e3 : atI [D.str (sN 0 k), .str (nm k), .str (sN 2 k), .str (sN 3 k)] (st : Nat) = some (.str (sN st k)) := by
      match st, hst with
      | 0, _ => rfl
      | 1, _ => rfl
      | 2, _ => rfl
      | 3, _ => rfl
    have hb : paBody [some S, some C, some (.str "abcdefghijklmnopqrstuvwxyz"), some (.int (st : Nat)), some (.own (ys.map D.str)), some (.int (k : Nat)), v] =
        .nx [some S, some C, some (.str "abcdefghijklmnopqrstuvwxyz"), some (.int (st : Nat)), some (.own (ys.map D.str ++ [.str (sN st k)])), some (.int (k : Nat)), some (.str (nm k))] := by
      show paBody [some S, some C, some (.str lets), _, _, _, _] = .nx [some S, some C, some (.str lets), _, _, _, _]
      generalize lets = le at *
      generalize ys.map D.str = Y at *
      generalize nm k = nk at *
      generalize sN 0 k = s0 at *
      generalize sN 2 k = s2 at *
      generalize sN 3 k = s3 at *
      generalize sN st k = ss at *
      simp [paBody, e1, e2, dv, ez, lb, nb, nb2, a0, a1, a2, a3, l1, l2, l3, l4, l5, e3]
    rw [nums]
    unfold forL
    have et : gN 5 (D.int (k : Nat)) [some S, some C, some (.str "abcdefghijklmnopqrstuvwxyz"), some (.int (st : Nat)), some (.own (ys.map D.str)), u, v] = some [some S, some C, some (.str "abcdefghijklmnopqrstuvwxyz"), some (.int (st : Nat)), some (.own (ys.map D.str)), some (.int (k : Nat)), v] := by simp
    rw [et]
    simp only [hb]
    rw [List.map_append] at ih
    rw [List.range'_succ]
    simpa using ih
end Kx
namespace Kx
open PySem PySem.Spec L2 Dn
theorem drawO {n : Nat} {xs : List D} {bd : Int} (h : Sr (n + 1) (.own xs)) (h0 : 0 < bd) (h1 : bd ≤ 10 ^ 9) : ∃ (r : Nat) (xs' : List D), f_l_draw [.own xs, .int bd] = .ok (.int r) [some (.own xs'), some (.int bd)] ∧ (r : Int) < bd ∧ Sr n (.own xs') ∧ noBorL xs' = true := by
  obtain ⟨r, s', h2, h3, h4⟩ := draw h h0 h1
  obtain ⟨ys, rfl, nb, _⟩ := h4.own
  exact ⟨r, ys, h2, h3, h4, nb⟩
theorem perm_erase {α : Type} : ∀ (l : List α) (r : Nat) (h : r < l.length), (l[r] :: l.eraseIdx r).Perm l
  | x :: l, 0, _ => .refl _
  | x :: l, r + 1, h => (List.Perm.swap _ _ _).trans (.cons _ (perm_erase l r (by simpa using h)))
abbrev poElt : Dn.Env → Out D := dMut 4 mPopAt (dCons (dCallM f_l_draw (dCons (dVar 0) (dCons (dOp fLen (dCons (dVar 4) dNil)) dNil))) dNil)
theorem seqI (r n : Nat) (h : r < n) : seqIndex? (r : Int) n = some r := by
  have := seqIndex_of (k := (r : Int)) (n := n) (by omega) (by omega)
  simpa using this
theorem po_loop (C Le St : D) (v : Option D) : ∀ (m k n : Nat) (xs : List D) (ys : List Str) (acc : List D) (env : Dn.Env), ys.length = m → m ≤ 1000 → acc.length + m ≤ 10000 → Sr (n + m) (.own xs) → wipeE env [5] = [some (.own xs), some C, some Le, some St, some (.own (ys.map D.str)), none, v] →
    ∃ (zs : List Str) (xs' : List D) (e : Dn.Env), lcL (gN 5) (fun env => .ok true env) poElt [5] (nums k m) acc env = .ok (acc ++ zs.map D.str) e ∧ zs.Perm ys ∧ Sr n (.own xs') ∧ wipeE e [5] = [some (.own xs'), some C, some Le, some St, some (.own []), none, v]
  | 0, k, n, xs, ys, acc, env, hl, _, _, hs, hw => by
    have : ys = [] := List.eq_nil_of_length_eq_zero hl
    subst this
    exact ⟨[], xs, env, by simp [nums, lcL], .refl _, hs, hw⟩
  | m + 1, k, n, xs, ys, acc, env, hl, hm, ha, hs, hw => by
    obtain ⟨r, xs1, hd, hr, hs1, nb1⟩ := drawO (n := n + m) (bd := ((m + 1 : Nat) : Int)) hs (by omega) (by omega)
    have hr' : r < ys.length := by omega
    have hy : ys[r]? = some ys[r] := List.getElem?_eq_getElem hr'
    obtain ⟨zs, xs2, e, q1, q2, q3, q4⟩ := po_loop C Le St v m (k + 1) n xs1 (ys.eraseIdx r) (acc ++ [.str ys[r]]) [some (.own xs1), some C, some Le, some St, some (.own ((ys.eraseIdx r).map D.str)), some (.int (k : Nat)), v] (by rw [List.length_eraseIdx_of_lt hr']; omega) (by omega) (by rw [List.length_append, List.length_singleton]; omega) hs1 (by simp [wipeE])
    refine ⟨ys[r] :: zs, xs2, e, ?_, ?_, q3, q4⟩
    · rw [nums]
      unfold lcL
      rw [hw]
      have e1 : gN 5 (D.int (k : Nat)) [some (.own xs), some C, some Le, some St, some (.own (ys.map D.str)), none, v] = some [some (.own xs), some C, some Le, some St, some (.own (ys.map D.str)), some (.int (k : Nat)), v] := by simp
      have e2 : poElt [some (.own xs), some C, some Le, some St, some (.own (ys.map D.str)), some (.int (k : Nat)), v] = .ok (.str ys[r]) [some (.own xs1), some C, some Le, some St, some (.own ((ys.eraseIdx r).map D.str)), some (.int (k : Nat)), v] := by
        have g1 : (ys.map D.str).length = m + 1 := by rw [List.length_map, hl]
        have g2 : seqIndex? (r : Int) (m + 1) = some r := seqI r (m + 1) (by omega)
        have g3 : (ys.map D.str)[r]? = some (.str ys[r]) := by rw [List.getElem?_map, hy]; rfl
        have g4 : (ys.map D.str).eraseIdx r = (ys.eraseIdx r).map D.str := by rw [List.eraseIdx_eq_take_drop_succ, List.eraseIdx_eq_take_drop_succ, List.map_append, List.map_take, List.map_drop]
        have nb := noBor_strs (ys.eraseIdx r)
        have c1 : -(9223372036854775808 : Int) ≤ r := by omega
        have c2 : (r : Int) < 9223372036854775808 := by omega
        rw [← g4] at nb ⊢
        generalize ys.map D.str = Y at *
        rw [show ((m + 1 : Nat) : Int) = (m : Int) + 1 from by omega] at hd
        simp [poElt, g1, hd, g2, g3, nb, c1, c2]
      rw [e1]
      simp only [e2]
      rw [z_mv _ _ (by simp)]
      simp only [frz_str]
      rw [if_pos (by have := z_size; omega), q1]
      simp
    · exact (List.Perm.cons _ q2).trans (perm_erase ys r hr')

/-- the pages of a law -/
theorem pages_ok {n : Nat} {xs : List D} {count : Nat} (hc : count ≤ 600) (h : Sr (n + 1 + count) (.own xs)) : ∃ (zs : List Str) (xs' : List D), f_l_pages [.own xs, .int (count : Nat)] = .ok (.own (zs.map D.str)) [some (.own xs'), some (.int (count : Nat))] ∧ zs.length = count ∧ zs.Nodup ∧ (∀ x ∈ zs, pageB x = true) ∧ Sr n (.own xs') := by
  obtain ⟨st, xs1, hd, hst, hs1, nb1⟩ := drawO (n := n + count) (bd := 4) (h.mono (by omega)) (by decide) (by decide)
  have hst' : st < 4 := by omega
  obtain ⟨u, v, q⟩ := pa_loop (.own xs1) (.int (count : Nat)) st hst' count 0 [] none none (by omega) (by simp; omega)
  have er : List.range' 0 count = List.range count := (List.range_eq_range' ..).symm
  rw [er, List.nil_append] at q
  obtain ⟨zs, xs2, e, p1, p2, p3, p4⟩ := po_loop (.int (count : Nat)) (.str "abcdefghijklmnopqrstuvwxyz") (.int (st : Nat)) v count 0 n xs1 (allN st count) [] [some (.own xs1), some (.int (count : Nat)), some (.str "abcdefghijklmnopqrstuvwxyz"), some (.int (st : Nat)), some (.own ((allN st count).map D.str)), u, v] (allN_len st count) (by omega) (by simp; omega) hs1 (by simp [wipeE])
  refine ⟨zs, xs2, ?_, by rw [p2.length_eq, allN_len], p2.nodup_iff.mpr (allN_nodup st count), fun x hx => allN_page (by omega) x (p2.mem_iff.mp hx), p3⟩
  have sm : small62 (count : Nat) := ⟨by omega, by omega⟩
  have rn := rngD_nums count
  have pn := plain_nums count 0
  have nbz := noBor_strs zs
  have nba := noBor_strs (allN st count)
  have cut : st = 2 → cutD (ten.map D.str ++ ((List.range count).map (sN st)).map D.str) none (some (count : Nat)) = (allN st count).map D.str := fun e2 => by
    subst e2
    unfold cutD allN
    rw [if_pos rfl, HT.sIx_none, HT.sIx_nat, List.drop_zero, List.map_take, List.map_append, Nat.sub_zero, Nat.min_eq_left]
    rw [List.length_append, List.length_map, List.length_map, List.length_map, List.length_range]
    omega
  have pr := plain_strs ((List.range count).map (sN st))
  have pt : plainL (ten.map D.str ++ ((List.range count).map (sN st)).map D.str) = true := by
    rw [← List.map_append]; exact plain_strs _
  have lr : (((List.range count).map (sN st)).map D.str).length = count := by simp
  have hne : st ≠ 2 → ((List.range count).map (sN st)).map D.str = (allN st count).map D.str := fun e => by unfold allN; rw [if_neg e]
  simp only [paBody, List.map_nil] at q
  simp only [poElt, List.nil_append] at p1
  generalize hA : (allN st count).map D.str = A at *
  generalize hB : ((List.range count).map (sN st)).map D.str = B at *
  generalize zs.map D.str = Zs at *
  generalize nums 0 count = ns at *
  by_cases e2 : st = 2
  · have c2 := cut e2
    have e3 : ten.map D.str = [.str "a", .str "b", .str "aa", .str "ab", .str "aaaa", .str "aaab", .str "zzzz", .str "hit", .str "miss", .str "z"] := rfl
    rw [e3] at c2 pt
    have e4 : (st : Int) = 2 := by omega
    rw [e4] at q p1 hd
    have len : B.length + 1 + 1 + 1 + 1 + 1 + 1 + 1 + 1 + 1 + 1 ≤ 16777216 := by rw [lr]; omega
    have len2 : 10 + B.length ≤ 16777216 := by rw [lr]; omega
    simp only [List.cons_append, List.nil_append] at c2 pt
    simp [f_l_pages, fnD, g_l_pages, outsOf, List.range, List.range.loop, hd, nb1, sm, rn, pn, q, c2, pt, p1, p4, nbz, nba, pr, len2]
  · have c2 := hne e2
    subst c2
    have e5 : ((st : Int) == 2) = false := beq_eq_false_iff_ne.mpr (by omega)
    simp [f_l_pages, fnD, g_l_pages, outsOf, List.range, List.range.loop, hd, nb1, sm, rn, pn, q, p1, p4, nbz, nba, e5]
end Kx
namespace Kx
open PySem PySem.Spec L2 Dn
theorem setup_ok {n most size : Nat} {xs : List D} (hm : 1 ≤ most) (hm2 : most ≤ 500) (hs : size ≤ 1000) (h : Sr (n + 1000) (.own xs)) : ∃ (room sz : Nat) (init rest : List Str) (xs' : List D),
    f_l_setup [.own xs, .int (most : Nat), .int (size : Nat)] = .ok (.tup [.int (room : Nat), .tup (init.map D.str), .own ((rest ++ init).map D.str), .int (sz : Nat)]) [some (.own xs'), some (.int (most : Nat)), some (.int (size : Nat))] ∧
    1 ≤ room ∧ room ≤ 40 ∧ init.length ≤ room ∧ (init ++ rest).Nodup ∧ (∀ x ∈ init ++ rest, pageB x = true) ∧ 0 < (init ++ rest).length ∧ (init ++ rest).length ≤ 500 ∧ sz ≤ size ∧ Sr n (.own xs') := by
  obtain ⟨r1, x1, d1, l1, s1, nb1⟩ := drawO (n := n + 999) (bd := (most : Nat)) (h.mono (by omega)) (by omega) (by omega)
  have c1 : r1 + 1 ≤ most := by omega
  obtain ⟨zs, x2, d2, lz, ndz, pgz, s2⟩ := pages_ok (n := n + 10) (xs := x1) (count := r1 + 1) (by omega) (s1.mono (by omega))
  obtain ⟨y2, e2, nb2, _⟩ := s2.own
  cases e2
  obtain ⟨r3, x3, d3, l3, s3, nb3⟩ := drawO (n := n + 9) (bd := 3) s2 (by decide) (by decide)
  obtain ⟨b, hb, hb1, hb2⟩ : ∃ b : Nat, atI [D.int 2, .int 5, .int 40] (r3 : Nat) = some (.int (b : Nat)) ∧ 1 ≤ b ∧ b ≤ 40 := by
    have : r3 < 3 := by omega
    match r3, this with
    | 0, _ => exact ⟨2, rfl, by decide, by decide⟩
    | 1, _ => exact ⟨5, rfl, by decide, by decide⟩
    | 2, _ => exact ⟨40, rfl, by decide, by decide⟩
  obtain ⟨r4, x4, d4, l4, s4, nb4⟩ := drawO (n := n + 8) (bd := (b : Nat)) s3 (by omega) (by omega)
  obtain ⟨r5, x5, d5, l5, s5, nb5⟩ := drawO (n := n + 7) (bd := ((r1 + 1 : Nat) : Int) + 1) s4 (by omega) (by omega)
  obtain ⟨r6, x6, d6, l6, s6, nb6⟩ := drawO (n := n + 6) (bd := (size : Int) + 1) s5 (by omega) (by omega)
  have lzz : zs.length = r1 + 1 := lz
  generalize hq : min (r4 + 1) r5 = q
  have qz : q ≤ zs.length := by omega
  have qmin : (if (r5 : Int) < (r4 : Int) + 1 then (r5 : Int) else (r4 : Int) + 1) = (q : Int) := by split <;> omega
  refine ⟨r4 + 1, r6, zs.take q, zs.drop q, x6, ?_, by omega, by omega, by rw [List.length_take]; omega, by rw [List.take_append_drop]; exact ndz, by rw [List.take_append_drop]; exact pgz, by rw [List.take_append_drop]; omega, by rw [List.take_append_drop]; omega, by omega, s6.mono (by omega)⟩
  have p0 := plain_strs zs
  have p1 := plain_strs (zs.take q)
  have n1 := noBor_strs (zs.take q)
  have n0 := noBor_strs zs
  have p2 := plain_strs (zs.drop q)
  have n2 := noBor_strs (zs.drop q ++ zs.take q)
  have cut1 : cutD (zs.map D.str) none (some (q : Int)) = (zs.take q).map D.str := by
    unfold cutD
    rw [HT.sIx_none, HT.sIx_nat, List.drop_zero, List.length_map, Nat.sub_zero, Nat.min_eq_left qz, List.map_take]
  have cut2 : cutD (zs.map D.str) (some (q : Int)) none = (zs.drop q).map D.str := by
    unfold cutD
    rw [HT.sIx_none, HT.sIx_nat, List.length_map, Nat.min_eq_left qz, List.map_drop, List.take_of_length_le (by rw [List.length_drop, List.length_map]; exact Nat.le_refl _)]
  have ln0 : (zs.map D.str).length = r1 + 1 := by rw [List.length_map, lz]
  have ln1 : ((zs.take q).map D.str).length = q := by rw [List.length_map, List.length_take, Nat.min_eq_left qz]
  have ln2 : ((zs.drop q).map D.str).length + q ≤ 16777216 := by rw [List.length_map, List.length_drop]; omega
  rw [List.map_append] at n2 ⊢
  generalize zs.map D.str = Z at *
  generalize (zs.take q).map D.str = A at *
  generalize (zs.drop q).map D.str = B at *
  rw [show ((r1 + 1 : Nat) : Int) = (r1 : Int) + 1 by omega] at d2 d5
  have a1 : (1 : Int) + r1 = r1 + 1 := Int.add_comm ..
  have a4 : (1 : Int) + r4 = r4 + 1 := Int.add_comm ..
  simp [f_l_setup, fnD, g_l_setup, outsOf, List.range, List.range.loop, d1, d2, d3, d4, d5, d6, hb, nb1, nb2, nb3, nb4, nb5, nb6, p0, p1, p2, n0, n1, n2, ln0, ln1, ln2, cut1, cut2, qmin, a1, a4]
end Kx
namespace Kx
open PySem PySem.Spec L2 Dn
theorem mem_any (x : Str) : ∀ cs : List Str, ((cs.map D.str).any fun y => eqfl y (.str x)) = decide (x ∈ cs)
  | [] => rfl
  | c :: cs => by
    rw [List.map_cons, List.any_cons, mem_any x cs]
    show ((c == x) || decide (x ∈ cs)) = decide (x ∈ c :: cs)
    by_cases e : x = c
    · subst e; simp
    · have : (c == x) = false := beq_eq_false_iff_ne.mpr (Ne.symm e)
      simp [this, e]
theorem flat_all : ∀ cs : List Str, (cs.map D.str).all flat = true
  | [] => rfl
  | c :: cs => by rw [List.map_cons, List.all_cons, flat_all cs]; rfl
theorem notIn (env : Dn.Env) (x : Str) (cs : List Str) (i : Nat) (h : env[i]? = some (some (.own (cs.map D.str)))) : fNotIn env [.str x, .bor i] = some (.bl (!decide (x ∈ cs))) := by
  have e1 : fInB env (.str x) (.bor i) = some (decide (x ∈ cs)) := by
    unfold fInB
    have r : rd env (.bor i) = some (.own (cs.map D.str)) := by simp [h]
    rw [r]
    have q : seqA (.own (cs.map D.str)) = some (cs.map D.str) := rfl
    simp only [q]
    rw [mem_any]
    show (if flat (.str x) = true ∧ (cs.map D.str).all flat = true then some (decide (x ∈ cs)) else _) = _
    rw [if_pos ⟨rfl, flat_all cs⟩]
  show (fInB env (.str x) (.bor i)).map (fun b => D.bl (!b)) = _
  rw [e1]
  rfl
theorem empty_eq {cs : List Str} (h : ∀ x ∈ cs, pageB x = true) : qeO (.own (cs.map D.str)) (.own []) = some (.bl cs.isEmpty) ∧ qnO (.own (cs.map D.str)) (.own []) = some (.bl (!cs.isEmpty)) := by
  have t := txt_strs h
  have e1 : py (.own (cs.map D.str)) = .list (cs.map PyData.str) := by rw [← pyL_strs]; rfl
  have l1 : lay (.own (cs.map D.str)) = true := by
    unfold lay
    rw [e1]
    unfold SeqAt.shaped
    have c : PyData.canLay0 (.list (cs.map PyData.str)) = true := t.lay
    have d : PyData.depth (.list (cs.map PyData.str)) ≤ 64 := by have := t.depth; show PyData.depthAll _ + 1 ≤ 64; omega
    rw [c, decide_eq_true d]
    rfl
  have l2 : lay (.own []) = true := by decide
  have e2 : eqD (.own (cs.map D.str)) (.own []) = cs.isEmpty := by
    unfold eqD
    rw [e1]
    cases cs <;> rfl
  unfold qeO qnO
  rw [l1, l2, e2]
  exact ⟨rfl, rfl⟩
abbrev absE : Dn.Env → Out D := dLc (dItems (dVar 3)) (gN 12) (dB (dOp fNotIn (dCons (dVar 12) (dCons (dVar 5) dNil)))) (dVar 12) [12]
theorem abs_ok (S R T Sz H G C B k u v : Option D) (pages cs : List Str) (hl : pages.length ≤ 1000) :
    absE [S, R, T, some (.lst (pages.map D.str)), Sz, some (.own (cs.map D.str)), H, G, C, B, k, u, v] = .ok (.own ((pages.filter fun x => !decide (x ∈ cs)).map D.str)) [S, R, T, some (.lst (pages.map D.str)), Sz, some (.own (cs.map D.str)), H, G, C, B, k, u, none] := by
  have pl := plain_strs pages
  have nb := noBor_strs pages
  have fz := frzL_plain _ pl
  obtain ⟨e, q, w⟩ := lc_fm (t := gN 12) (p := dB (dOp fNotIn (dCons (dVar 12) (dCons (dVar 5) dNil)))) (g := dVar 12) (own := [12]) (W := [S, R, T, some (.lst (pages.map D.str)), Sz, some (.own (cs.map D.str)), H, G, C, B, k, u, none]) (fun d => match d with
    | .str x => !decide (x ∈ cs)
    | _ => false) id (pages.map D.str) [] [S, R, T, some (.lst (pages.map D.str)), Sz, some (.own (cs.map D.str)), H, G, C, B, k, u, v] (by simp [wipeE]) (by rw [List.length_map]; have := z_size; simp; omega) (fun d hd => by
      obtain ⟨x, _, rfl⟩ := List.mem_map.mp hd
      have ni := notIn [S, R, T, some (.lst (pages.map D.str)), Sz, some (.own (cs.map D.str)), H, G, C, B, k, u, some (.str x)] x cs 5 rfl
      refine ⟨[S, R, T, some (.lst (pages.map D.str)), Sz, some (.own (cs.map D.str)), H, G, C, B, k, u, some (.str x)], by simp, ?_, by simp [wipeE], fun _ => ⟨[S, R, T, some (.lst (pages.map D.str)), Sz, some (.own (cs.map D.str)), H, G, C, B, k, u, some (.str x)], by simp, by simp, by simp [wipeE]⟩⟩
      simp [ni])
  have fe : ∀ l : List Str, ((l.map D.str).filter fun d => match d with
      | .str x => !decide (x ∈ cs)
      | _ => false).map (fun d => frz (id d)) = (l.filter fun x => !decide (x ∈ cs)).map D.str := fun l => by
    induction l with
    | nil => rfl
    | cons x l ih =>
      rw [List.map_cons, List.filter_cons, List.filter_cons]
      simp only
      split
      · rw [List.map_cons, List.map_cons, ih]; rfl
      · exact ih
  rw [fe, List.nil_append] at q
  generalize ((pages.filter fun x => !decide (x ∈ cs)).map D.str) = F at *
  generalize pages.map D.str = P at *
  simp [absE, pl, nb, fz, q, w]
end Kx
namespace Kx
open PySem PySem.Spec L2 Dn
def conts (C : List (List Str)) : List D := C.map fun c => .own (c.map D.str)
theorem noBor_conts (C : List (List Str)) : noBorL (conts C) = true := by
  unfold conts
  induction C with
  | nil => rfl
  | cons c C ih => simp [ih, noBor_strs]
theorem noBor_evs (l : List (Bool × Str)) : noBorL (evs l) = true := plainL_noBor _ (plain_evs l)
/-- the run's slots -/
def E (xs : List D) (room : Nat) (T : D) (pages : List Str) (Sz : Option D) (cs : List Str) (H : List (Bool × Str)) (G : List Str) (C : List (List Str)) (busy : Nat) (k u v : Option D) : Dn.Env :=
  [some (.own xs), some (.int (room : Nat)), some T, some (.lst (pages.map D.str)), Sz, some (.own (cs.map D.str)), some (.own (evs H)), some (.own (G.map D.str)), some (.own (conts C)), some (.int (busy : Nat)), k, u, v]
abbrev hitS : Dn.Env → SOut := dExpr (dMut 6 mAppend (dCons (dTup (dCons (dC (.str "hit")) (dCons (dOp fIx (dCons (dVar 5) (dCons (dCallM f_l_draw (dCons (dVar 0) (dCons (dOp fLen (dCons (dVar 5) dNil)) dNil))) dNil))) dNil))) dNil))
theorem hit_ok {n : Nat} {xs : List D} (room : Nat) (T : D) (pages : List Str) (Sz : Option D) (cs : List Str) (H : List (Bool × Str)) (G : List Str) (C : List (List Str)) (busy : Nat) (k u v : Option D) (h : Sr (n + 1) (.own xs)) (hc : 0 < cs.length) (hc2 : cs.length ≤ 1000) (hH : H.length ≤ 10000) :
    ∃ x ∈ cs, ∃ xs', hitS (E xs room T pages Sz cs H G C busy k u v) = .nx (E xs' room T pages Sz cs (H ++ [(false, x)]) G C busy k u v) ∧ Sr n (.own xs') := by
  obtain ⟨r, x1, d1, l1, s1, nb1⟩ := drawO (n := n) (bd := (cs.length : Nat)) h (by omega) (by omega)
  have hr : r < cs.length := by omega
  refine ⟨cs[r], List.getElem_mem hr, x1, ?_, s1⟩
  have e1 : atI (cs.map D.str) (r : Nat) = some (.str cs[r]) := atI_n (by rw [List.getElem?_map, List.getElem?_eq_getElem hr]; rfl)
  have ln : (cs.map D.str).length = cs.length := List.length_map ..
  have eH : evs (H ++ [(false, cs[r])]) = evs H ++ [.tup [.str "hit", .str cs[r]]] := by unfold evs; rw [List.map_append]; rfl
  have lH : (evs H).length < 16777216 := by unfold evs; rw [List.length_map]; omega
  have nH := noBor_evs H
  have nH2 := noBor_evs (H ++ [(false, cs[r])])
  unfold E
  rw [eH] at nH2 ⊢
  generalize cs.map D.str = CS at *
  generalize evs H = EH at *
  generalize conts C = CC at *
  generalize G.map D.str = GG at *
  generalize pages.map D.str = PP at *
  generalize cs[r] = x at *
  simp [hitS, d1, e1, ln, nb1, lH, nH, nH2]

abbrev missS : Dn.Env → SOut := (dSeq (dSet 12 (dOp fIx (dCons (dVar 11) (dCons (dCallM f_l_draw (dCons (dVar 0) (dCons (dOp fLen (dCons (dVar 11) dNil)) dNil))) dNil))))
    (dSeq (dExpr (dMut 6 mAppend (dCons (dTup (dCons (dC (.str "miss")) (dCons (dVar 12) dNil))) dNil)))
    (dSeq (dIfS (dB (dOp fEq (dCons (dOp fLen (dCons (dVar 5) dNil)) (dCons (dVar 1) dNil)))) (dExpr (dMut 7 mAppend (dCons (dMut 5 mPopAt (dCons (dCallM f_l_draw (dCons (dVar 0) (dCons (dVar 1) dNil))) dNil)) dNil))) dSkip)
    (dSet 5 (dOp fAdd (dCons (dVar 5) (dCons (dLst (dCons (dVar 12) dNil)) dNil)))))))
theorem miss_ok {n : Nat} {xs : List D} (room : Nat) (T : D) (pages : List Str) (Sz : Option D) (cs : List Str) (H : List (Bool × Str)) (G : List Str) (C : List (List Str)) (busy : Nat) (k v : Option D) (ab : List Str) (h : Sr (n + 2) (.own xs)) (hr1 : 1 ≤ room) (hr2 : room ≤ 100) (hcr : cs.length ≤ room) (ha : 0 < ab.length) (ha2 : ab.length ≤ 1000) (hH : H.length ≤ 10000) (hG : G.length ≤ 10000) :
    ∃ x ∈ ab, ∃ xs' cs' G', missS (E xs room T pages Sz cs H G C busy k (some (.own (ab.map D.str))) v) = .nx (E xs' room T pages Sz cs' (H ++ [(true, x)]) G' C busy k (some (.own (ab.map D.str))) (some (.str x))) ∧ Sr n (.own xs') ∧ ((cs.length = room ∧ ∃ (r : Nat) (hr : r < cs.length), cs' = cs.eraseIdx r ++ [x] ∧ G' = G ++ [cs[r]]) ∨ (cs.length ≠ room ∧ cs' = cs ++ [x] ∧ G' = G)) := by
  obtain ⟨r, x1, d1, l1, s1, nb1⟩ := drawO (n := n + 1) (bd := (ab.length : Nat)) h (by omega) (by omega)
  have hr : r < ab.length := by omega
  have e1 : atI (ab.map D.str) (r : Nat) = some (.str ab[r]) := atI_n (by rw [List.getElem?_map, List.getElem?_eq_getElem hr]; rfl)
  have la : (ab.map D.str).length = ab.length := List.length_map ..
  have lc : (cs.map D.str).length = cs.length := List.length_map ..
  have eH : evs (H ++ [(true, ab[r])]) = evs H ++ [.tup [.str "miss", .str ab[r]]] := by unfold evs; rw [List.map_append]; rfl
  have lH : (evs H).length < 16777216 := by unfold evs; rw [List.length_map]; omega
  have nH := noBor_evs H
  have nH2 := noBor_evs (H ++ [(true, ab[r])])
  rw [eH] at nH2
  have lG : (G.map D.str).length < 16777216 := by rw [List.length_map]; omega
  by_cases hf : cs.length = room
  · obtain ⟨r2, x2, d2, l2, s2, nb2⟩ := drawO (n := n) (bd := (room : Nat)) s1 (by omega) (by omega)
    have hr2' : r2 < cs.length := by omega
    refine ⟨ab[r], List.getElem_mem hr, x2, cs.eraseIdx r2 ++ [ab[r]], G ++ [cs[r2]], ?_, s2, .inl ⟨hf, r2, hr2', rfl, rfl⟩⟩
    · have g2 : seqIndex? (r2 : Int) room = some r2 := seqI r2 room (by omega)
      have g3 : (cs.map D.str)[r2]? = some (.str cs[r2]) := by rw [List.getElem?_map, List.getElem?_eq_getElem hr2']; rfl
      have g4 : (cs.map D.str).eraseIdx r2 = (cs.eraseIdx r2).map D.str := by rw [List.eraseIdx_eq_take_drop_succ, List.eraseIdx_eq_take_drop_succ, List.map_append, List.map_take, List.map_drop]
      have p4 := plain_strs (cs.eraseIdx r2)
      have n4 := noBor_strs (cs.eraseIdx r2)
      have n5 := noBor_strs (cs.eraseIdx r2 ++ [ab[r]])
      have n6 := noBor_strs (G ++ [cs[r2]])
      have n7 := noBor_strs G
      have l4 : ((cs.eraseIdx r2).map D.str).length + 1 ≤ 16777216 := by rw [List.length_map, List.length_eraseIdx_of_lt hr2']; omega
      have c1 : -(9223372036854775808 : Int) ≤ r2 := by omega
      have c2 : (r2 : Int) < 9223372036854775808 := by omega
      have lr : (cs.map D.str).length = room := by rw [lc, hf]
      unfold E
      rw [eH]
      rw [List.map_append] at n5 n6
      rw [List.map_append, List.map_append]
      generalize (cs.eraseIdx r2).map D.str = CE at *
      generalize cs.map D.str = CS at *
      generalize evs H = EH at *
      generalize conts C = CC at *
      generalize G.map D.str = GG at *
      generalize pages.map D.str = PP at *
      generalize ab.map D.str = AB at *
      generalize ab[r] = x at *
      generalize cs[r2] = z at *
      simp only [List.map_cons, List.map_nil] at n5 n6 ⊢
      simp [missS, d1, e1, la, nb1, lH, nH, nH2, lr, d2, nb2, g2, g3, g4, p4, n4, n5, n6, n7, l4, c1, c2, lG]
  · refine ⟨ab[r], List.getElem_mem hr, x1, cs ++ [ab[r]], G, ?_, s1.mono (by omega), .inr ⟨hf, rfl, rfl⟩⟩
    · have p4 := plain_strs cs
      have n5 := noBor_strs (cs ++ [ab[r]])
      have l4 : (cs.map D.str).length + 1 ≤ 16777216 := by rw [lc]; omega
      have e5 : ((cs.length : Int) == (room : Int)) = false := beq_eq_false_iff_ne.mpr (by omega)
      unfold E
      rw [eH]
      rw [List.map_append] at n5
      rw [List.map_append]
      generalize cs.map D.str = CS at *
      generalize evs H = EH at *
      generalize conts C = CC at *
      generalize G.map D.str = GG at *
      generalize pages.map D.str = PP at *
      generalize ab.map D.str = AB at *
      generalize ab[r] = x at *
      simp only [List.map_cons, List.map_nil] at n5 ⊢
      have l6 : cs.length + 1 ≤ 16777216 := by omega
      simp [missS, d1, e1, la, nb1, lH, nH, nH2, lc, e5, p4, n5, l4, l6]
end Kx
namespace Kx
open PySem PySem.Spec L2 Dn
abbrev condT : Dn.Env → Out Bool := (dAnd (dB (dOp fNe (dCons (dVar 5) (dCons (dLst dNil) dNil)))) (dOr (dB (dOp fEq (dCons (dVar 11) (dCons (dLst dNil) dNil)))) (dB (dOp fLt (dCons (dCallM f_l_draw (dCons (dVar 0) (dCons (dC (.int 6)) dNil))) (dCons (dVar 9) dNil))))))
theorem cond_ok {n : Nat} {xs : List D} (room : Nat) (T : D) (pages : List Str) (Sz : Option D) (cs : List Str) (H : List (Bool × Str)) (G : List Str) (C : List (List Str)) (busy : Nat) (k v : Option D) (ab : List Str) (h : Sr (n + 1) (.own xs)) (hc : ∀ x ∈ cs, pageB x = true) (ha : ∀ x ∈ ab, pageB x = true) :
    ∃ b xs', condT (E xs room T pages Sz cs H G C busy k (some (.own (ab.map D.str))) v) = .ok b (E xs' room T pages Sz cs H G C busy k (some (.own (ab.map D.str))) v) ∧ Sr n (.own xs') ∧ (b = true → 0 < cs.length) ∧ (b = false → cs = [] ∨ 0 < ab.length) := by
  obtain ⟨_, q1⟩ := empty_eq hc
  obtain ⟨q2, _⟩ := empty_eq ha
  unfold E
  cases cs with
  | nil =>
    refine ⟨false, xs, ?_, h.mono (by omega), fun z => by simp at z, fun _ => .inl rfl⟩
    simp only [List.map_nil, List.isEmpty_nil, Bool.not_true] at q1
    generalize evs H = EH at *
    generalize conts C = CC at *
    generalize G.map D.str = GG at *
    generalize pages.map D.str = PP at *
    generalize ab.map D.str = AB at *
    simp [condT, q1]
  | cons c cs =>
    simp only [List.isEmpty_cons, Bool.not_false] at q1
    cases ab with
    | nil =>
      refine ⟨true, xs, ?_, h.mono (by omega), fun _ => by simp, fun z => by simp at z⟩
      simp only [List.map_nil, List.isEmpty_nil] at q2
      generalize (c :: cs).map D.str = CS at *
      generalize evs H = EH at *
      generalize conts C = CC at *
      generalize G.map D.str = GG at *
      generalize pages.map D.str = PP at *
      simp [condT, q1, q2]
    | cons a ab =>
      simp only [List.isEmpty_cons] at q2
      obtain ⟨r, x1, d1, l1, s1, nb1⟩ := drawO (n := n) (bd := 6) h (by decide) (by decide)
      refine ⟨decide ((r : Int) < (busy : Nat)), x1, ?_, s1, fun _ => by simp, fun _ => .inr (by simp)⟩
      generalize (c :: cs).map D.str = CS at *
      generalize evs H = EH at *
      generalize conts C = CC at *
      generalize G.map D.str = GG at *
      generalize pages.map D.str = PP at *
      generalize (a :: ab).map D.str = AB at *
      simp [condT, q1, q2, d1, nb1]
abbrev turnS : Dn.Env → SOut := (dSeq (dSet 11 absE) (dSeq (dIfS condT hitS missS) (dExpr (dMut 8 mAppend (dCons (dOp fListOf (dCons (dVar 5) dNil)) dNil)))))
theorem last_ok {xs : List D} (room : Nat) (T : D) (pages : List Str) (Sz : Option D) (cs : List Str) (H : List (Bool × Str)) (G : List Str) (C : List (List Str)) (busy : Nat) (k u v : Option D) (hC : C.length ≤ 10000) :
    dExpr (dMut 8 mAppend (dCons (dOp fListOf (dCons (dVar 5) dNil)) dNil)) (E xs room T pages Sz cs H G C busy k u v) = .nx (E xs room T pages Sz cs H G (C ++ [cs]) busy k u v) := by
  have e : conts (C ++ [cs]) = conts C ++ [.own (cs.map D.str)] := by unfold conts; rw [List.map_append]; rfl
  have n1 := noBor_conts C
  have n2 := noBor_conts (C ++ [cs])
  have l1 : (conts C).length < 16777216 := by unfold conts; rw [List.length_map]; omega
  have p1 := plain_strs cs
  have n3 := noBor_strs cs
  unfold E
  rw [e] at n2 ⊢
  generalize cs.map D.str = CS at *
  generalize evs H = EH at *
  generalize conts C = CC at *
  generalize G.map D.str = GG at *
  generalize pages.map D.str = PP at *
  simp [n1, n2, l1, p1, n3]
/-- a step of the run: event, what goes, contents before and after -/
def Stp (room : Nat) (cs : List Str) (q : Bool × Str) (G G' cs' : List Str) : Prop :=
  (q.1 = false ∧ q.2 ∈ cs ∧ cs' = cs ∧ G' = G) ∨
  (q.1 = true ∧ q.2 ∉ cs ∧ cs.length = room ∧ ∃ (r : Nat) (hr : r < cs.length), cs' = cs.eraseIdx r ++ [q.2] ∧ G' = G ++ [cs[r]]) ∨
  (q.1 = true ∧ q.2 ∉ cs ∧ cs.length ≠ room ∧ cs' = cs ++ [q.2] ∧ G' = G)
theorem turn_ok {n : Nat} {xs : List D} (room : Nat) (T : D) (pages : List Str) (Sz : Option D) (cs : List Str) (H : List (Bool × Str)) (G : List Str) (C : List (List Str)) (busy : Nat) (k u v : Option D) (h : Sr (n + 4) (.own xs)) (hr1 : 1 ≤ room) (hr2 : room ≤ 100) (hcr : cs.length ≤ room)
    (hc : ∀ x ∈ cs, pageB x = true) (hp : ∀ x ∈ pages, pageB x = true) (hp1 : 0 < pages.length) (hp2 : pages.length ≤ 1000) (hH : H.length ≤ 9000) (hG : G.length ≤ 9000) (hC : C.length ≤ 9000) :
    ∃ q xs' cs' G' u' v', turnS (E xs room T pages Sz cs H G C busy k u v) = .nx (E xs' room T pages Sz cs' (H ++ [q]) G' (C ++ [cs']) busy k u' v') ∧ Sr n (.own xs') ∧ pageB q.2 = true ∧ Stp room cs q G G' cs' := by
  have ab := abs_ok (some (.own xs)) (some (.int (room : Nat))) (some T) Sz (some (.own (evs H))) (some (.own (G.map D.str))) (some (.own (conts C))) (some (.int (busy : Nat))) k u v pages cs hp2
  generalize hA : (pages.filter fun x => !decide (x ∈ cs)) = A at ab
  have hAp : ∀ x ∈ A, pageB x = true := fun x hx => hp x (by rw [← hA] at hx; exact (List.mem_filter.mp hx).1)
  have hAn : ∀ x ∈ A, x ∉ cs := fun x hx => by
    rw [← hA] at hx
    have := (List.mem_filter.mp hx).2
    simpa using this
  have hAl : A.length ≤ 1000 := by rw [← hA]; exact Nat.le_trans (List.length_filter_le _ _) hp2
  obtain ⟨b, x1, c1, s1, c2, c3⟩ := cond_ok (n := n + 3) room T pages Sz cs H G C busy k none A h hc hAp
  have nA := noBor_strs A
  have first : turnS (E xs room T pages Sz cs H G C busy k u v) = qO (iO (condT (E xs room T pages Sz cs H G C busy k (some (.own (A.map D.str))) none)) hitS missS) (dExpr (dMut 8 mAppend (dCons (dOp fListOf (dCons (dVar 5) dNil)) dNil))) := by
    show qO (sO 11 (absE (E xs room T pages Sz cs H G C busy k u v))) _ = _
    unfold E
    rw [ab]
    simp only [z_s1]
    rw [z_mv _ _ (by simpa using nA)]
    simp only [z_s2]
    rw [if_pos (by simp)]
    rfl
  rw [first, c1]
  cases b with
  | true =>
    obtain ⟨x, hx, x2, e2, s2⟩ := hit_ok (n := n) room T pages Sz cs H G C busy k (some (.own (A.map D.str))) none (s1.mono (by omega)) (c2 rfl) (by omega) (by omega)
    refine ⟨(false, x), x2, cs, G, some (.own (A.map D.str)), none, ?_, s2, hc x hx, .inl ⟨rfl, hx, rfl, rfl⟩⟩
    show qO (hitS _) _ = _
    rw [e2]
    exact last_ok room T pages Sz cs (H ++ [(false, x)]) G C busy k _ _ (by omega)
  | false =>
    have hA0 : 0 < A.length := by
      rcases c3 rfl with z | z
      · subst z
        rw [← hA, List.filter_eq_self.mpr fun _ _ => by simp]
        exact hp1
      · exact z
    obtain ⟨x, hx, x2, cs', G', e2, s2, m1⟩ := miss_ok (n := n) room T pages Sz cs H G C busy k none A (s1.mono (by omega)) hr1 hr2 hcr hA0 hAl (by omega) (by omega)
    refine ⟨(true, x), x2, cs', G', some (.own (A.map D.str)), some (.str x), ?_, s2, hAp x hx, ?_⟩
    · show qO (missS _) _ = _
      rw [e2]
      exact last_ok room T pages Sz cs' (H ++ [(true, x)]) G' C busy k _ _ (by omega)
    · rcases m1 with ⟨m2, r, hr, m3, m4⟩ | ⟨m2, m3, m4⟩
      · exact .inr (.inl ⟨rfl, hAn x hx, m2, r, hr, m3, m4⟩)
      · exact .inr (.inr ⟨rfl, hAn x hx, m2, m3, m4⟩)
/-- the page that goes next -/
def hd1 : List D → Option (Str × List D)
  | .str o :: g => some (o, g)
  | _ => none
/-- following a log with the pages that go: the contents after each event -/
def fo (room : Nat) : List Str → List (Bool × Str) → List D → Option (List (List Str))
  | _, [], g => if g.isEmpty then some [] else none
  | c, (false, p) :: l, g => if p ∈ c then (fo room c l g).map (c :: ·) else none
  | c, (true, p) :: l, g => if p ∈ c then none else if c.length = room then (hd1 g).bind fun og => if og.1 ∈ c then (fo room (c.filter (fun x => !decide (x = og.1)) ++ [p]) l og.2).map ((c.filter (fun x => !decide (x = og.1)) ++ [p]) :: ·) else none
    else (fo room (c ++ [p]) l g).map ((c ++ [p]) :: ·)
theorem erase_filter : ∀ (c : List Str) (r : Nat) (hr : r < c.length), c.Nodup → c.eraseIdx r = c.filter fun x => !decide (x = c[r])
  | x :: c, 0, _, h => by
    rw [List.nodup_cons] at h
    show c = (x :: c).filter fun y => !decide (y = x)
    rw [List.filter_cons]
    simp only [decide_true, Bool.not_true, Bool.false_eq_true, if_false]
    rw [List.filter_eq_self.mpr fun y hy => ?_]
    have : y ≠ x := fun e => h.1 (e ▸ hy)
    simp [this]
  | x :: c, r + 1, hr, h => by
    rw [List.nodup_cons] at h
    have hr' : r < c.length := by simpa using hr
    show x :: c.eraseIdx r = (x :: c).filter fun y => !decide (y = c[r])
    have : x ≠ c[r] := fun e => h.1 (e ▸ List.getElem_mem hr')
    rw [List.filter_cons, if_pos (by simp [this]), erase_filter c r hr' h.2]
theorem nodup_in {c c' : List Str} {p : Str} (h : c.Nodup) (s : c'.Sublist c) (hp : p ∉ c) : (c' ++ [p]).Nodup := by
  rw [List.nodup_append]
  refine ⟨h.sublist s, by simp, fun a ha b hb e => hp ?_⟩
  rw [List.mem_singleton.mp hb] at e
  exact e ▸ s.subset ha
theorem run_loop (room : Nat) (T : D) (pages : List Str) (Sz : Option D) (busy : Nat) (hr1 : 1 ≤ room) (hr2 : room ≤ 100) (hp : ∀ x ∈ pages, pageB x = true) (hp1 : 0 < pages.length) (hp2 : pages.length ≤ 1000) : ∀ (m j n : Nat) (xs : List D) (cs : List Str) (H : List (Bool × Str)) (G : List Str) (C : List (List Str)) (k u v : Option D),
    Sr (n + 4 * m) (.own xs) → cs.Nodup → cs.length ≤ room → (∀ x ∈ cs, pageB x = true) → H.length + m ≤ 9000 → G.length + m ≤ 9000 → C.length + m ≤ 9000 →
    ∃ xs' cs' H' G' C' k' u' v', forL (gN 10) turnS (nums j m) (E xs room T pages Sz cs H G C busy k u v) = .nx (E xs' room T pages Sz cs' (H ++ H') (G ++ G') (C ++ C') busy k' u' v') ∧ Sr n (.own xs') ∧ H'.length = m ∧ (∀ q ∈ H', pageB q.2 = true) ∧ (∀ x ∈ G', pageB x = true) ∧ G'.length ≤ m ∧ C'.length = m ∧ (∀ c ∈ C', c.length ≤ room ∧ ∀ x ∈ c, pageB x = true) ∧
      fo room cs H' (G'.map D.str) = some C'
  | 0, j, n, xs, cs, H, G, C, k, u, v, h, _, _, _, _, _, _ => ⟨xs, cs, [], [], [], k, u, v, by simp [nums, forL], h, rfl, by simp, by simp, by simp, rfl, by simp, rfl⟩
  | m + 1, j, n, xs, cs, H, G, C, k, u, v, h, hnd, hc, hcp, hH, hG, hC => by
    obtain ⟨q, x1, c1, g1, u1, v1, e1, s1, p1, p2⟩ := turn_ok (n := n + 4 * m) room T pages Sz cs H G C busy (some (.int (j : Nat))) u v (h.mono (by omega)) hr1 hr2 hc hcp hp hp1 hp2 (by omega) (by omega) (by omega)
    have facts : c1.Nodup ∧ c1.length ≤ room ∧ (∀ x ∈ c1, pageB x = true) ∧ ∃ ga, g1 = G ++ ga ∧ ga.length ≤ 1 ∧ (∀ x ∈ ga, pageB x = true) ∧ ∀ H' G' C', fo room c1 H' (G'.map D.str) = some C' → fo room cs (q :: H') ((ga ++ G').map D.str) = some (c1 :: C') := by
      obtain ⟨b, p⟩ := q
      rcases p2 with ⟨e1, e2, e3, e4⟩ | ⟨e1, e2, e3, r, hr, e4, e5⟩ | ⟨e1, e2, e3, e4, e5⟩
      · simp only at e1 e2
        subst e1 e3 e4
        refine ⟨hnd, hc, hcp, [], by simp, by simp, by simp, fun H' G' C' z => ?_⟩
        rw [List.nil_append, fo, if_pos e2, z]
        rfl
      · simp only at e1 e2 e4
        subst e1
        have ef := erase_filter cs r hr hnd
        have mo : cs[r] ∈ cs := List.getElem_mem hr
        refine ⟨by rw [e4]; exact nodup_in hnd (List.eraseIdx_sublist ..) e2, ?_, ?_, [cs[r]], e5, by simp, fun x hx => by rw [List.mem_singleton.mp hx]; exact hcp _ mo, fun H' G' C' z => ?_⟩
        · rw [e4, List.length_append, List.length_eraseIdx_of_lt hr, List.length_singleton]; omega
        · rw [e4]
          intro x hx
          rcases List.mem_append.mp hx with hx | hx
          · exact hcp x (List.mem_of_mem_eraseIdx hx)
          · rw [List.mem_singleton.mp hx]; exact p1
        · rw [e4, ef] at z
          rw [List.singleton_append, List.map_cons, fo, if_neg e2, if_pos e3, hd1, Option.bind_some]
          simp only
          rw [if_pos mo, z, e4, ef]
          rfl
      · simp only at e1 e2 e4
        subst e1
        refine ⟨by rw [e4]; exact nodup_in hnd (List.Sublist.refl _) e2, by rw [e4, List.length_append, List.length_singleton]; omega, ?_, [], by rw [e5]; simp, by simp, by simp, fun H' G' C' z => ?_⟩
        · rw [e4]
          intro x hx
          rcases List.mem_append.mp hx with hx | hx
          · exact hcp x hx
          · rw [List.mem_singleton.mp hx]; exact p1
        · rw [e4] at z
          rw [List.nil_append, fo, if_neg e2, if_neg e3, z, e4]
          rfl
    obtain ⟨f1, f2, f3, ga, f4, f5, f6, f7⟩ := facts
    have g1l : g1.length ≤ G.length + 1 := by rw [f4, List.length_append]; omega
    obtain ⟨x2, c2, h2, g2, cc2, k2, u2, v2, e2, s2, r1, r2, r3, r4, r5, r6, r7⟩ := run_loop room T pages Sz busy hr1 hr2 hp hp1 hp2 m (j + 1) n x1 c1 (H ++ [q]) g1 (C ++ [c1]) (some (.int (j : Nat))) u1 v1 s1 f1 f2 f3 (by rw [List.length_append, List.length_singleton]; omega) (by omega) (by rw [List.length_append, List.length_singleton]; omega)
    refine ⟨x2, c2, q :: h2, ga ++ g2, c1 :: cc2, k2, u2, v2, ?_, s2, by rw [List.length_cons, r1], fun z hz => ?_, fun z hz => ?_, by rw [List.length_append]; omega, by rw [List.length_cons, r5], fun z hz => ?_, f7 _ _ _ r7⟩
    · rw [nums]
      unfold forL
      have et : gN 10 (D.int (j : Nat)) (E xs room T pages Sz cs H G C busy k u v) = some (E xs room T pages Sz cs H G C busy (some (.int (j : Nat))) u v) := by simp [E]
      rw [et]
      simp only [e1]
      rw [e2, f4]
      simp
    · rcases List.mem_cons.mp hz with z' | z'
      · subst z'; exact p1
      · exact r2 z z'
    · rcases List.mem_append.mp hz with z' | z'
      · exact f6 z z'
      · exact r3 z z'
    · rcases List.mem_cons.mp hz with z' | z'
      · subst z'; exact ⟨f2, f3⟩
      · exact r6 z z'
end Kx
namespace Kx
open PySem PySem.Spec L2 Dn
theorem run_ok {n : Nat} {xs : List D} {room : Nat} {init pages : List Str} {size : Nat} (h : Sr (n + 1 + 4 * size) (.own xs)) (hr1 : 1 ≤ room) (hr2 : room ≤ 100) (hnd : init.Nodup) (hi : init.length ≤ room) (hip : ∀ x ∈ init, pageB x = true) (hp : ∀ x ∈ pages, pageB x = true) (hp1 : 0 < pages.length) (hp2 : pages.length ≤ 1000) (hs : size ≤ 1000) :
    ∃ (xs' : List D) (H' : List (Bool × Str)) (G' : List Str) (C' : List (List Str)), f_l_run [.own xs, .int (room : Nat), .tup (init.map D.str), .lst (pages.map D.str), .int (size : Nat)] = .ok (.tup [.own (evs H'), .own (G'.map D.str), .own (conts (init :: C'))]) [some (.own xs'), some (.int (room : Nat)), some (.tup (init.map D.str)), some (.lst (pages.map D.str)), some (.int (size : Nat))] ∧
      Sr n (.own xs') ∧ H'.length = size ∧ (∀ q ∈ H', pageB q.2 = true) ∧ (∀ x ∈ G', pageB x = true) ∧ G'.length ≤ size ∧ C'.length = size ∧ (∀ c ∈ C', c.length ≤ room ∧ ∀ x ∈ c, pageB x = true) ∧ fo room init H' (G'.map D.str) = some C' := by
  obtain ⟨r, x1, d1, l1, s1, nb1⟩ := drawO (n := n + 4 * size) (bd := 4) (h.mono (by omega)) (by decide) (by decide)
  obtain ⟨x2, c2, h2, g2, cc2, k2, u2, v2, e2, s2, r1, r2, r3⟩ := run_loop room (.tup (init.map D.str)) pages (some (.int (size : Nat))) (r + 1) hr1 hr2 hp hp1 hp2 size 0 n x1 init [] [] [init] none none none s1 hnd hi hip (by simp; omega) (by simp; omega) (by simp; omega)
  refine ⟨x2, h2, g2, cc2, ?_, s2, r1, r2, r3⟩
  have p0 := plain_strs init
  have n0 := noBor_strs init
  have t1 := tame (d := .tup (init.map D.str)) (by simpa using p0)
  have sq : ∀ e, (rd e (.tup (init.map D.str))).bind seqA = some (init.map D.str) := fun _ => rfl
  have t2 := tame (d := .lst (pages.map D.str)) (by simpa using plain_strs pages)
  have sm : small62 (size : Nat) := ⟨by omega, by omega⟩
  have rn := rngD_nums size
  have pn := plain_nums size 0
  have a4 : (1 : Int) + r = r + 1 := Int.add_comm ..
  have nH := noBor_evs h2
  have nG := noBor_strs g2
  have nC := noBor_conts (init :: cc2)
  have e3 : evs [] = [] := rfl
  have e4 : conts [init] = [.own (init.map D.str)] := rfl
  simp only [E, List.nil_append, List.cons_append, e3, e4, List.map_nil, Int.natCast_add, Int.cast_ofNat_Int] at e2
  simp only [turnS] at e2
  generalize D.tup (init.map D.str) = T at *
  generalize D.lst (pages.map D.str) = PP at *
  generalize init.map D.str = I at *
  generalize nums 0 size = ns at *
  generalize conts (init :: cc2) = CC at *
  generalize evs h2 = EH at *
  generalize g2.map D.str = GG at *
  generalize c2.map D.str = CS at *
  simp [f_l_run, fnD, g_l_run, outsOf, List.range, List.range.loop, t1, t2, sq, p0, n0, d1, nb1, a4, sm, rn, pn, e2, retV, takeL, nH, nG, nC]
end Kx
namespace Kx
open PySem PySem.Spec L2 Dn
/-! what a history may be made of; membership in lists of pages -/
def Itm (d : D) : Prop := (∃ x, d = .str x ∧ pageB x = true) ∨ d = .non ∨ ∃ x, d = .lst [.str x] ∧ pageB x = true
def isS : D → Bool
  | .str _ => true
  | _ => false
theorem Itm.is_page {d : D} (h : Itm d) : f_is_page [d] = .ok (.bl (isS d)) [some d] := by
  rcases h with ⟨x, rfl, hx⟩ | rfl | ⟨x, rfl, hx⟩
  · rw [is_page_ok x (page_len hx), hx]; rfl
  · simp [f_is_page, fnD, g_is_page, outsOf, List.range, List.range.loop, isiB, tyD, isS]
  · have r : ∀ e, rd e (.lst [.str x]) = some (.lst [.str x]) := fun _ => rfl
    have ty : tyD (.lst [.str x]) = some "list" := rfl
    have t := tame (d := .lst [.str x]) (by simp)
    have p : isS (.lst [.str x]) = false := rfl
    generalize D.lst [.str x] = T at *
    simp [f_is_page, fnD, g_is_page, outsOf, List.range, List.range.loop, isiB, ty, p, t, r]
theorem Itm.plain {d : D} (h : Itm d) : plain d = true := by
  rcases h with ⟨x, rfl, hx⟩ | rfl | ⟨x, rfl, hx⟩ <;> simp
theorem plain_itms : ∀ g : List D, (∀ d ∈ g, Itm d) → plainL g = true
  | [], _ => rfl
  | d :: g, h => by rw [plainL_cons, (h d List.mem_cons_self).plain, plain_itms g fun e he => h e (List.mem_cons_of_mem _ he)]; rfl
theorem itm_strs {xs : List Str} (h : ∀ x ∈ xs, pageB x = true) : ∀ d ∈ xs.map D.str, Itm d := fun d hd => by
  obtain ⟨x, hx, rfl⟩ := List.mem_map.mp hd
  exact .inl ⟨x, rfl, h x hx⟩
theorem inB_seq {env : Dn.Env} {L c' : D} {cs : List Str} (x : Str) (h : rd env L = some c') (hk : dicK c' = none) (hs : seqA c' = some (cs.map D.str)) (hn : ∀ y, c' ≠ .str y) : fInB env (.str x) L = some (decide (x ∈ cs)) := by
  unfold fInB
  rw [h]
  split
  · rename_i e; cases e; exact absurd rfl (hn _)
  · rename_i c2 e1 _
    cases e1
    rw [hk]
    simp only [hs]
    rw [if_pos ⟨rfl, flat_all cs⟩, mem_any]
  · rename_i e; cases e
theorem in_lst (env : Dn.Env) (x : Str) (cs : List Str) : fInB env (.str x) (.lst (cs.map D.str)) = some (decide (x ∈ cs)) := inB_seq (c' := .lst (cs.map D.str)) x rfl rfl rfl (fun _ => by simp)
theorem in_bor (env : Dn.Env) (x : Str) (cs : List Str) (i : Nat) (h : env[i]? = some (some (.own (cs.map D.str)))) : fInB env (.str x) (.bor i) = some (decide (x ∈ cs)) := inB_seq (c' := .own (cs.map D.str)) x (by simp [h]) rfl rfl (fun _ => by simp)
theorem any_not {d : D} (h : Itm d) (hs : isS d = false) : ∀ cs : List Str, ((cs.map D.str).any fun y => eqfl y d) = false
  | [] => rfl
  | c :: cs => by
    rw [List.map_cons, List.any_cons, any_not h hs cs]
    rcases h with ⟨x, rfl, hx⟩ | rfl | ⟨x, rfl, hx⟩
    · cases hs
    · rfl
    · rfl
theorem lay_strs (cs : List Str) (h : ∀ x ∈ cs, pageB x = true) : lay (.own (cs.map D.str)) = true := by
  have t := txt_strs h
  have e1 : py (.own (cs.map D.str)) = .list (cs.map PyData.str) := by rw [← pyL_strs]; rfl
  unfold lay
  rw [e1]
  unfold SeqAt.shaped
  have c : PyData.canLay0 (.list (cs.map PyData.str)) = true := t.lay
  have d : PyData.depth (.list (cs.map PyData.str)) ≤ 64 := by have := t.depth; show PyData.depthAll _ + 1 ≤ 64; omega
  rw [c, decide_eq_true d]
  rfl
theorem lay_one {x : Str} (h : pageB x = true) : lay (.lst [.str x]) = true := lay_strs [x] (by simpa using h)
theorem any_notD {x : Str} : ∀ cs : List Str, ((cs.map D.str).any fun y => eqD y (.lst [.str x])) = false
  | [] => rfl
  | c :: cs => by
    rw [List.map_cons, List.any_cons, any_notD cs]
    rfl
/-- in: any item -/
theorem in_itm (env : Dn.Env) (d : D) (hd : Itm d) (cs : List Str) (hc : ∀ x ∈ cs, pageB x = true) (i : Nat) (h : env[i]? = some (some (.own (cs.map D.str)))) : fInB env d (.bor i) = some (match d with | .str x => decide (x ∈ cs) | _ => false) := by
  rcases hd with ⟨x, rfl, hx⟩ | rfl | ⟨x, rfl, hx⟩
  · exact in_bor env x cs i h
  · have r : rd env (.bor i) = some (.own (cs.map D.str)) := by simp [h]
    unfold fInB
    rw [r]
    have q : seqA (.own (cs.map D.str)) = some (cs.map D.str) := rfl
    have k : dicK (.own (cs.map D.str)) = none := rfl
    simp only [q, k]
    rw [any_not (.inr (.inl rfl)) rfl, if_pos ⟨rfl, flat_all cs⟩]
  · have r : rd env (.bor i) = some (.own (cs.map D.str)) := by simp [h]
    unfold fInB
    rw [r]
    have q : seqA (.own (cs.map D.str)) = some (cs.map D.str) := rfl
    have k : dicK (.own (cs.map D.str)) = none := rfl
    have s : sub env (.lst [.str x]) = .lst [.str x] := sub_id _ (plain_noBor _ (by simp))
    have nb : noBor (.own (cs.map D.str)) = true := by simpa using noBor_strs cs
    simp only [q, k]
    rw [if_neg (by rintro ⟨z, _⟩; cases z), s, lay_one hx, lay_strs cs hc, nb, any_notD]
    rfl
theorem ne_bb (env : Dn.Env) (a b : Bool) : fNe env [.bl a, .bl b] = some (.bl (a != b)) := by cases a <;> cases b <;> rfl
theorem eq_ss (env : Dn.Env) (a b : Str) : fEq env [.str a, .str b] = some (.bl (a == b)) := rfl
/-- the contents after an event, with the page that goes -/
def nxt (c : List Str) (m : Bool) (p : Str) : Option Str → Option (List Str)
  | none => if m then (if p ∈ c then none else some (c ++ [p])) else (if p ∈ c then some c else none)
  | some o => if m then (if p ∈ c then none else if o ∈ c then some (c.filter (fun x => !decide (x = o)) ++ [p]) else none) else none
def outD : Option Str → D
  | none => .non
  | some o => .str o
def nxtD (c : List Str) (m : Bool) (o : Option (List Str)) : D := match o with
  | none => .non
  | some c' => if m then .own (c'.map D.str) else .lst (c'.map D.str)
theorem markHit (m : Bool) : ((if m = true then ("miss" : Str) else "hit") == ("hit" : Str)) = !m := by cases m <;> decide
abbrev nc1 : Dn.Env → SOut := dAsg (dVar 1) (gT 2 (gsCons (gN 3) (gsCons (gN 4) gsNil)))
abbrev nc2 : Dn.Env → SOut := (dIfS (dB (dOp fNe (dCons (dOp fIn (dCons (dVar 4) (dCons (dVar 0) dNil))) (dCons (dOp fEq (dCons (dVar 3) (dCons (dC (.str "hit")) dNil))) dNil)))) (dRet (dC .non)) dSkip)
abbrev nc3 : Dn.Env → SOut := (dIfS (dB (dOp fIsN (dCons (dVar 2) (dCons (dC .non) dNil)))) (dRet (dIf (dB (dOp fEq (dCons (dVar 3) (dCons (dC (.str "hit")) dNil)))) (dVar 0) (dOp fAdd (dCons (dVar 0) (dCons (dLst (dCons (dVar 4) dNil)) dNil))))) dSkip)
abbrev nc4 : Dn.Env → SOut := (dIfS (dB (dOp fNotIn (dCons (dVar 2) (dCons (dVar 0) dNil)))) (dRet (dC .non)) dSkip)
abbrev nc5 : Dn.Env → SOut := (dRet (dOp fAdd (dCons (dLc (dItems (dVar 0)) (gN 5) (dB (dOp fNe (dCons (dVar 5) (dCons (dVar 2) dNil)))) (dVar 5) [5]) (dCons (dLst (dCons (dVar 4) dNil)) dNil))))
def mkS (m : Bool) : Str := if m = true then "miss" else "hit"
theorem mkS_hit (m : Bool) : (mkS m == Str.ofString "hit") = !m := by cases m <;> decide
theorem mkS_miss (m : Bool) : (mkS m == Str.ofString "miss") = m := by cases m <;> decide
theorem ev_mk (m : Bool) (p : Str) : ev m p = .tup [.str (mkS m), .str p] := rfl
theorem filt_lc (c : List Str) (o : Str) (hc : c.length ≤ 1000) (E M S P : Option D) (u : Option D) :
    dLc (dItems (dVar 0)) (gN 5) (dB (dOp fNe (dCons (dVar 5) (dCons (dVar 2) dNil)))) (dVar 5) [5] [some (.lst (c.map D.str)), E, some (.str o), M, P, u] =
      .ok (.own ((c.filter fun x => !decide (x = o)).map D.str)) [some (.lst (c.map D.str)), E, some (.str o), M, P, none] := by
  have pl := plain_strs c
  have t1 := tame (d := .lst (c.map D.str)) (by simpa using plain_strs c)
  have it : seqF (.lst (c.map D.str)) = some (c.map D.str) := rfl
  obtain ⟨e, q, w⟩ := lc_fm (t := gN 5) (p := dB (dOp fNe (dCons (dVar 5) (dCons (dVar 2) dNil)))) (g := dVar 5) (own := [5]) (W := [some (.lst (c.map D.str)), E, some (.str o), M, P, none]) (fun d => match d with
    | .str x => !decide (x = o)
    | _ => false) id (c.map D.str) [] [some (.lst (c.map D.str)), E, some (.str o), M, P, u] (by simp [wipeE]) (by rw [List.length_map]; have := z_size; simp; omega) (fun d hd => by
      obtain ⟨x, _, rfl⟩ := List.mem_map.mp hd
      have xo : (x == o) = decide (x = o) := by by_cases e : x = o <;> simp [e]
      generalize D.lst (c.map D.str) = L at *
      refine ⟨[some L, E, some (.str o), M, P, some (.str x)], by simp, ?_, by simp [wipeE], fun _ => ⟨[some L, E, some (.str o), M, P, some (.str x)], by simp, by simp, by simp [wipeE]⟩⟩
      simp [xo])
  have fe : ∀ l : List Str, ((l.map D.str).filter fun d => match d with
      | .str x => !decide (x = o)
      | _ => false).map (fun d => frz (id d)) = (l.filter fun x => !decide (x = o)).map D.str := fun l => by
    induction l with
    | nil => rfl
    | cons x l ih =>
      rw [List.map_cons, List.filter_cons, List.filter_cons]
      simp only
      split
      · rw [List.map_cons, List.map_cons, ih]; rfl
      · exact ih
  rw [fe, List.nil_append] at q
  generalize ((c.filter fun x => !decide (x = o)).map D.str) = F at *
  have nb := noBor_strs c
  have fz := frzL_plain _ pl
  generalize c.map D.str = C at *
  simp [pl, nb, fz, q, w]
theorem ad_lst (en : Dn.Env) (C ys : List D) (h1 : plainL C = true) (h2 : plainL ys = true) (h3 : C.length + ys.length ≤ sizeLine) : fAdd en [.lst C, .own ys] = some (.own (C ++ ys)) := by
  show (if plainL C = true ∧ plainL ys = true ∧ C.length + ys.length ≤ sizeLine then some (D.own (C ++ ys)) else none) = _
  rw [if_pos ⟨h1, h2, h3⟩]
theorem next_content_ok (c : List Str) (m : Bool) (p : Str) (o : Option Str) (hc : c.length ≤ 1000) (hm : m = false → o = none) :
    f_next_content [.lst (c.map D.str), ev m p, outD o] = .ok (nxtD c m (nxt c m p o)) [some (.lst (c.map D.str)), some (ev m p), some (outD o)] := by
  have t1 := tame (d := .lst (c.map D.str)) (by simpa using plain_strs c)
  have te := tame (plain_ev (m := m) (p := p))
  have ti : ∀ env, fIn env [.str p, .lst (c.map D.str)] = some (.bl (decide (p ∈ c))) := fun env => by
    show (fInB env (.str p) (.lst (c.map D.str))).map D.bl = _
    rw [in_lst]; rfl
  have sA : seqF (.lst (c.map D.str)) = some (c.map D.str) := rfl
  have mh := mkS_hit m
  have l1 : (c.map D.str).length + 1 ≤ 16777216 := by rw [List.length_map]; omega
  have n2 := noBor_strs (c ++ [p])
  rw [List.map_append] at n2
  have pe : plainL [D.str (mkS m), .str p] = true := rfl
  have h1 : nc1 [some (.lst (c.map D.str)), some (ev m p), some (outD o), none, none, none] = .nx [some (.lst (c.map D.str)), some (ev m p), some (outD o), some (.str (mkS m)), some (.str p), none] := by
    rw [ev_mk] at *
    generalize D.lst (c.map D.str) = L at *
    generalize outD o = O at *
    generalize mkS m = M at *
    simp [nc1]
  have h2 : ∀ E O : Option D, nc2 [some (.lst (c.map D.str)), E, O, some (.str (mkS m)), some (.str p), none] = if (decide (p ∈ c) != !m) = true then .rt .non [some (.lst (c.map D.str)), E, O, some (.str (mkS m)), some (.str p), none] else .nx [some (.lst (c.map D.str)), E, O, some (.str (mkS m)), some (.str p), none] := fun E O => by
    have ne := ne_bb
    generalize decide (p ∈ c) = b at *
    generalize D.lst (c.map D.str) = L at *
    generalize mkS m = M at *
    cases b <;> cases m <;> simp [nc2, ↓ti, ↓ne, mh, t1]
  have out : ∀ d M, outsOf 3 (fun i => [0, 1, 2].contains i) [some (.lst (c.map D.str)), some (ev m p), some d, some (.str M), some (.str p), none] = [some (.lst (c.map D.str)), some (ev m p), some d] := fun d M => by
    generalize D.lst (c.map D.str) = L at *
    generalize ev m p = EV at *
    simp [outsOf, List.range, List.range.loop]
  have h3n : nc3 [some (.lst (c.map D.str)), some (ev m p), some .non, some (.str (mkS m)), some (.str p), none] = .rt (if m then .own ((c ++ [p]).map D.str) else .lst (c.map D.str)) [some (.lst (c.map D.str)), some (ev m p), some .non, some (.str (mkS m)), some (.str p), none] := by
    have n1 := noBor_strs c
    have pc := plain_strs c
    have ad : ∀ en, fAdd en [.lst (c.map D.str), .own [.str p]] = some (.own (c.map D.str ++ [.str p])) := fun en => ad_lst en _ _ pc (by simp) (by simpa using l1)
    rw [List.map_append]
    generalize ev m p = EV at *
    generalize mkS m = M at *
    generalize c.map D.str = C at *
    simp only [List.map_cons, List.map_nil] at n2 ⊢
    cases m <;> simp [nc3, mh, t1, fIsN, isNonD, n1, n2, pc, l1, ↓ad]
  have h3s : ∀ o, nc3 [some (.lst (c.map D.str)), some (ev m p), some (.str o), some (.str (mkS m)), some (.str p), none] = .nx [some (.lst (c.map D.str)), some (ev m p), some (.str o), some (.str (mkS m)), some (.str p), none] := fun o => by
    generalize ev m p = EV at *
    generalize mkS m = M at *
    generalize D.lst (c.map D.str) = L at *
    simp [nc3, fIsN, isNonD]
  have h4 : ∀ o, nc4 [some (.lst (c.map D.str)), some (ev m p), some (.str o), some (.str (mkS m)), some (.str p), none] = if o ∈ c then .nx [some (.lst (c.map D.str)), some (ev m p), some (.str o), some (.str (mkS m)), some (.str p), none] else .rt .non [some (.lst (c.map D.str)), some (ev m p), some (.str o), some (.str (mkS m)), some (.str p), none] := fun o => by
    have tn : ∀ env, fNotIn env [.str o, .lst (c.map D.str)] = some (.bl (!decide (o ∈ c))) := fun env => by
      show (fInB env (.str o) (.lst (c.map D.str))).map (fun b => D.bl (!b)) = _
      rw [in_lst]; rfl
    by_cases e : o ∈ c
    · rw [if_pos e]
      rw [decide_eq_true e] at tn
      generalize ev m p = EV at *
      generalize mkS m = M at *
      generalize D.lst (c.map D.str) = L at *
      simp [nc4, ↓tn, t1]
    · rw [if_neg e]
      rw [decide_eq_false e] at tn
      generalize ev m p = EV at *
      generalize mkS m = M at *
      generalize D.lst (c.map D.str) = L at *
      simp [nc4, ↓tn, t1]
  have h5 : ∀ o, nc5 [some (.lst (c.map D.str)), some (ev m p), some (.str o), some (.str (mkS m)), some (.str p), none] = .rt (.own ((c.filter (fun x => !decide (x = o)) ++ [p]).map D.str)) [some (.lst (c.map D.str)), some (ev m p), some (.str o), some (.str (mkS m)), some (.str p), none] := fun o => by
    have fl := filt_lc c o hc (some (ev m p)) (some (.str (mkS m))) none (some (.str p)) none
    have n3 := noBor_strs (c.filter fun x => !decide (x = o))
    have p3 := plain_strs (c.filter fun x => !decide (x = o))
    have n4 := noBor_strs (c.filter (fun x => !decide (x = o)) ++ [p])
    have l3 : ((c.filter fun x => !decide (x = o)).map D.str).length + 1 ≤ 16777216 := by rw [List.length_map]; have := List.length_filter_le (fun x => !decide (x = o)) c; omega
    rw [List.map_append] at n4 ⊢
    generalize (c.filter fun x => !decide (x = o)).map D.str = F at *
    generalize ev m p = EV at *
    generalize mkS m = M at *
    generalize D.lst (c.map D.str) = L at *
    simp only [List.map_cons, List.map_nil] at n4 ⊢
    simp [nc5, ↓fl, n3, n4, p3, l3]
  have ge : g_next_content = dSeq nc1 (dSeq nc2 (dSeq nc3 (dSeq nc4 nc5))) := rfl
  unfold f_next_content
  have go : ∀ d env, g_next_content [some (.lst (c.map D.str)), some (ev m p), some (outD o), none, none, none] = .rt d env → env = [some (.lst (c.map D.str)), some (ev m p), some (outD o), some (.str (mkS m)), some (.str p), none] → fnD 6 3 (fun i => [0, 1, 2].contains i) g_next_content [.lst (c.map D.str), ev m p, outD o] = .ok d [some (.lst (c.map D.str)), some (ev m p), some (outD o)] := fun d env hg he => fnD_rt hg rfl (by rw [he]; exact out _ _)
  by_cases hx : (decide (p ∈ c) != !m) = true
  · refine go (nxtD c m (nxt c m p o)) _ ?_ rfl
    have e : nxt c m p o = none := by
      cases m with
      | true =>
        have : p ∈ c := by simpa using hx
        cases o <;> simp [nxt, this]
      | false =>
        have : p ∉ c := by simpa using hx
        cases o <;> simp [nxt, this]
    rw [e]
    rw [ge]
    rw [z_seq, h1, z_qn, z_seq, h2, if_pos hx]
    rfl
  · cases o with
    | none =>
      refine go (nxtD c m (nxt c m p none)) _ ?_ rfl
      have e : nxtD c m (nxt c m p none) = (if m then .own ((c ++ [p]).map D.str) else .lst (c.map D.str)) := by
        cases m with
        | true =>
          have : p ∉ c := by simpa using hx
          simp [nxt, nxtD, this]
        | false =>
          have : p ∈ c := by simpa using hx
          simp [nxt, nxtD, this]
      rw [e]
      rw [ge]
      rw [z_seq, h1, z_qn, z_seq, h2, if_neg hx, z_qn, z_seq]
      exact (congrArg (fun z => qO z _) h3n).trans rfl
    | some o =>
      have hm1 : m = true := by
        cases m with
        | true => rfl
        | false => cases hm rfl
      subst hm1
      have hp : p ∉ c := by simpa using hx
      refine go (nxtD c true (nxt c true p (some o))) _ ?_ rfl
      rw [ge]
      rw [z_seq, h1, z_qn, z_seq, h2, if_neg hx, z_qn, z_seq]
      refine (congrArg (fun z => qO z _) (h3s o)).trans ?_
      rw [z_qn, z_seq]
      refine (congrArg (fun z => qO z _) (h4 o)).trans ?_
      by_cases ho : o ∈ c
      · rw [if_pos ho, z_qn]
        refine (h5 o).trans ?_
        simp [nxt, nxtD, hp, ho, outD]
      · rw [if_neg ho]
        simp [nxt, nxtD, hp, ho, outD]
end Kx
namespace Kx
open PySem PySem.Spec L2 Dn
/-! the dict of what leaves, and the loop of replayed -/
theorem lates_ge (room : Int) : ∀ (l : List (Bool × Str)) (k : Nat) (n : Int), ∀ i ∈ lates room k n l, (k : Int) ≤ i
  | [], k, n, i, h => by simp [lates] at h
  | q :: l, k, n, i, h => by
    rw [lates, List.mem_append] at h
    rcases h with h | h
    · split at h
      · rw [List.mem_singleton.mp h]; exact Int.le_refl _
      · cases h
    · have := lates_ge room l (k + 1) _ i h
      omega
theorem lates_pw (room : Int) : ∀ (l : List (Bool × Str)) (k : Nat) (n : Int), (lates room k n l).Nodup
  | [], k, n => by simp [lates]
  | q :: l, k, n => by
    rw [lates, List.nodup_append]
    refine ⟨by split <;> simp, lates_pw room l _ _, fun a ha b hb e => ?_⟩
    have h1 := lates_ge room l (k + 1) _ b hb
    split at ha
    · rw [List.mem_singleton.mp ha] at e; omega
    · cases ha
theorem lates_len (room : Int) : ∀ (l : List (Bool × Str)) (k : Nat) (n : Int), (lates room k n l).length ≤ l.length
  | [], k, n => by simp [lates]
  | q :: l, k, n => by
    rw [lates, List.length_append, List.length_cons]
    have := lates_len room l (k + 1) (if n + (if q.1 then 1 else 0) < room then n + (if q.1 then 1 else 0) else room)
    split <;> simp <;> omega
abbrev dcT : D → Dn.Env → Option Dn.Env := gT 2 (gsCons (gN 7) (gsCons (gN 10) gsNil))
theorem has_not {i : Int} {is : List Int} (h : i ∉ is) : hasK (is.map Sum.inl) (.inl i) = false := by
  unfold hasK
  rw [List.any_eq_false]
  intro q hq
  obtain ⟨j, hj, rfl⟩ := List.mem_map.mp hq
  have : j ≠ i := fun e => h (e ▸ hj)
  simpa using this
theorem dc_loop (A B C E F G H I : Option D) : ∀ (is : List Int) (gs : List Str) (ks : List Int) (acc : List D) (env : Dn.Env), (ks ++ is).Nodup → is.length = gs.length → ks.length + is.length ≤ 10000 → wipeE env [7, 10] = [A, B, C, E, F, G, H, none, I, none, none] → env.length = 11 →
    ∃ e, dcL dcT (fun env => .ok true env) (dVar 7) (dVar 10) [7, 10] (zipD (is.map D.int) (gs.map D.str)) (ks.map Sum.inl) acc env = .ok ((ks ++ is).map Sum.inl, acc ++ gs.map D.str) e ∧ wipeE e [7, 10] = [A, B, C, E, F, G, H, none, I, none, none]
  | [], [], ks, acc, env, _, _, _, hw, _ => ⟨env, by simp [zipD, dcL], hw⟩
  | i :: is, g :: gs, ks, acc, env, hn, hl, hk, hw, he => by
    have hi : i ∉ ks := by
      rw [List.nodup_append] at hn
      exact fun z => hn.2.2 i z i List.mem_cons_self rfl
    have nd2 : ((ks ++ [i]) ++ is).Nodup := by rw [List.append_assoc]; exact hn
    rw [List.length_cons, List.length_cons] at hl
    rw [List.length_cons] at hk
    obtain ⟨e, q, w⟩ := dc_loop A B C E F G H I is gs (ks ++ [i]) (acc ++ [.str g]) [A, B, C, E, F, G, H, some (.int i), I, none, some (.str g)] nd2 (by omega) (by rw [List.length_append, List.length_singleton]; omega) (by simp [wipeE]) rfl
    refine ⟨e, ?_, w⟩
    rw [List.map_cons, List.map_cons, zipD]
    unfold dcL
    have t : dcT (D.tup [.int i, .str g]) (wipeE env [7, 10]) = some [A, B, C, E, F, G, H, some (.int i), I, none, some (.str g)] := by rw [hw]; simp
    have v7 : dVar 7 [A, B, C, E, F, G, H, some (.int i), I, none, some (.str g)] = .ok (.int i) [A, B, C, E, F, G, H, some (.int i), I, none, some (.str g)] := by simp
    have v10 : dVar 10 [A, B, C, E, F, G, H, some (.int i), I, none, some (.str g)] = .ok (.str g) [A, B, C, E, F, G, H, some (.int i), I, none, some (.str g)] := by simp
    have m : mv (.str g) [A, B, C, E, F, G, H, some (.int i), I, none, some (.str g)] = some (.str g, [A, B, C, E, F, G, H, some (.int i), I, none, some (.str g)]) := by simp
    rw [t]
    simp only [v7, v10, m, keyD]
    have hs := has_not hi
    have pk : putKs (ks.map Sum.inl) (.inl i) = (ks ++ [i]).map Sum.inl := by unfold putKs; rw [hs]; simp
    have pv : putVs (ks.map Sum.inl) acc (.inl i) (frz (.str g)) = acc ++ [.str g] := by unfold putVs; rw [hs]; rfl
    rw [if_pos (by rw [List.length_map]; have := z_size; omega), pk, pv, q]
    simp
theorem zip_plain : ∀ (is : List Int) (gs : List Str), plainL (zipD (is.map D.int) (gs.map D.str)) = true
  | [], _ => rfl
  | _ :: _, [] => rfl
  | i :: is, g :: gs => by rw [List.map_cons, List.map_cons, zipD, plainL_cons, zip_plain is gs]; rfl
/-- what the dict answers -/
def look (is : List Int) (gs : List Str) (i : Nat) : Option Str := match is, gs with
  | j :: is, g :: gs => if j = (i : Int) then some g else look is gs i
  | _, _ => none
theorem look_ok : ∀ (is : List Int) (gs : List Str) (i : Nat), lookK (is.map Sum.inl) (gs.map D.str) (.inl (i : Int)) = (look is gs i).map D.str
  | [], _, _ => rfl
  | _ :: _, [], _ => rfl
  | j :: is, g :: gs, i => by
    rw [List.map_cons, List.map_cons, look_cons, look]
    by_cases e : j = (i : Int)
    · rw [if_pos e, if_pos (by rw [e])]; rfl
    · rw [if_neg e, if_neg (fun z => e (by injection z))]; exact look_ok is gs i
theorem look_no : ∀ {is : List Int} {gs : List Str} {i : Nat}, (i : Int) ∉ is → look is gs i = none
  | [], _, _, _ => rfl
  | _ :: _, [], _, _ => rfl
  | j :: is, g :: gs, i, h => by
    rw [look, if_neg (fun e => h (by rw [e]; exact List.mem_cons_self))]
    exact look_no fun z => h (List.mem_cons_of_mem _ z)
def lstC (C : List (List Str)) : List D := C.map fun c => .lst (c.map D.str)
theorem plain_lstC (C : List (List Str)) : plainL (lstC C) = true := by
  unfold lstC
  induction C with
  | nil => rfl
  | cons c C ih => rw [List.map_cons, plainL_cons, ih]; simpa using plain_strs c
theorem lstC_app (C C' : List (List Str)) : lstC (C ++ C') = lstC C ++ lstC C' := by unfold lstC; rw [List.map_append]
abbrev rb1 : Dn.Env → SOut := (dSet 9 (dCall f_next_content (dCons (dOp fIx (dCons (dVar 6) (dCons (dOp fNeg (dCons (dC (.int 1)) dNil)) dNil))) (dCons (dVar 8) (dCons (dGet 5 (dVar 7)) dNil)))))
abbrev rb2 : Dn.Env → SOut := (dIfS (dB (dOp fIsN (dCons (dVar 9) (dCons (dC .non) dNil)))) (dRet (dC .non)) dSkip)
abbrev rb3 : Dn.Env → SOut := (dExpr (dMut 6 mAppend (dCons (dVar 9) dNil)))
abbrev rBody : Dn.Env → SOut := dSeq rb1 (dSeq rb2 rb3)
theorem last_lst (C : List (List Str)) (c : List Str) : atI (lstC (C ++ [c])) (-1) = some (.lst (c.map D.str)) := by
  rw [lstC_app]
  exact atI_m1 _ _
theorem rb_one (A B L G W : Option D) (KS : List Key) (DS : List D) (C : List (List Str)) (c : List Str) (k : Nat) (m : Bool) (p : Str) (o : Option Str) (s9 : Option D) (hc : c.length ≤ 1000) (hC : C.length ≤ 10000) (hm : m = false → o = none) (hl : lookK KS DS (.inl (k : Int)) = o.map D.str) :
    (∀ c', nxt c m p o = some c' → ∃ z, rBody [A, B, L, G, W, some (.odic KS DS), some (.own (lstC (C ++ [c]))), some (.int (k : Nat)), some (ev m p), s9, none] = .nx [A, B, L, G, W, some (.odic KS DS), some (.own (lstC (C ++ [c] ++ [c']))), some (.int (k : Nat)), some (ev m p), z, none]) ∧
    (nxt c m p o = none → rBody [A, B, L, G, W, some (.odic KS DS), some (.own (lstC (C ++ [c]))), some (.int (k : Nat)), some (ev m p), s9, none] = .rt .non [A, B, L, G, W, some (.odic KS DS), some (.own (lstC (C ++ [c]))), some (.int (k : Nat)), some (ev m p), some .non, none]) := by
  have nc := next_content_ok c m p o hc hm
  have tc := tame (d := .lst (c.map D.str)) (by simpa using plain_strs c)
  have te := tame (plain_ev (m := m) (p := p))
  have la := last_lst C c
  have tO : plain (outD o) = true ∧ frz (outD o) = outD o ∧ noBor (outD o) = true ∧ (∀ e, sub e (outD o) = outD o) ∧ bors (outD o) = [] := tame (by cases o <;> simp [outD])
  have lk : ∀ e, gtO3 e (lookK KS DS (.inl (k : Int))) = .ok (outD o) e := fun e => by
    rw [hl]
    cases o <;> simp [outD, gtO3]
  have pC := plain_lstC (C ++ [c])
  have lC : (lstC (C ++ [c])).length < 16777216 := by unfold lstC; simp; omega
  have h1 : rb1 [A, B, L, G, W, some (.odic KS DS), some (.own (lstC (C ++ [c]))), some (.int (k : Nat)), some (ev m p), s9, none] = .nx [A, B, L, G, W, some (.odic KS DS), some (.own (lstC (C ++ [c]))), some (.int (k : Nat)), some (ev m p), some (nxtD c m (nxt c m p o)), none] := by
    have nb : noBor (nxtD c m (nxt c m p o)) = true := by
      cases nxt c m p o with
      | none => rfl
      | some c' => cases m <;> simpa [nxtD] using noBor_strs c'
    generalize lstC (C ++ [c]) = CC at *
    generalize D.lst (c.map D.str) = X at *
    generalize ev m p = EV at *
    generalize outD o = O at *
    generalize nxtD c m (nxt c m p o) = R at *
    simp [rb1, la, tc, te, tO, ↓lk, nc, nb]
  have eb : rBody = dSeq rb1 (dSeq rb2 rb3) := rfl
  constructor
  · intro c' hn
    rw [hn] at h1
    have pc := plain_strs c'
    have n2 := plainL_noBor _ (plain_lstC (C ++ [c] ++ [c']))
    have nC := plainL_noBor _ pC
    have e3 : lstC (C ++ [c] ++ [c']) = lstC (C ++ [c]) ++ [.lst (c'.map D.str)] := lstC_app ..
    cases m with
    | false =>
      refine ⟨some (.lst (c'.map D.str)), ?_⟩
      have h1' : rb1 _ = .nx [A, B, L, G, W, some (.odic KS DS), some (.own (lstC (C ++ [c]))), some (.int (k : Nat)), some (ev false p), some (.lst (c'.map D.str)), none] := h1
      rw [eb, z_seq, h1', z_qn, z_seq]
      rw [e3] at n2 ⊢
      generalize lstC (C ++ [c]) = CC at *
      generalize ev false p = EV at *
      generalize c'.map D.str = X at *
      have tX := tame (d := .lst X) (by simpa using pc)
      simp [rb2, rb3, fIsN, isNonD, pc, lC, n2, nC, tX]
    | true =>
      refine ⟨some (.lst (c'.map D.str)), ?_⟩
      have h1' : rb1 _ = .nx [A, B, L, G, W, some (.odic KS DS), some (.own (lstC (C ++ [c]))), some (.int (k : Nat)), some (ev true p), some (.own (c'.map D.str)), none] := h1
      rw [eb, z_seq, h1', z_qn, z_seq]
      rw [e3] at n2 ⊢
      have nb := noBor_strs c'
      have fz := frzL_plain _ pc
      generalize lstC (C ++ [c]) = CC at *
      generalize ev true p = EV at *
      generalize c'.map D.str = X at *
      have tX := tame (d := .lst X) (by simpa using pc)
      have mb : ∀ e, mv (.bor 9) e = mbO (.bor 9) (frzAt e 9) := fun e => z_mvb e (.bor 9) rfl
      simp [rb2, rb3, fIsN, isNonD, pc, lC, n2, nC, ↓mb, frzAt, nb, fz, tX]
  · intro hn
    rw [hn] at h1
    have h1' : rb1 _ = .nx [A, B, L, G, W, some (.odic KS DS), some (.own (lstC (C ++ [c]))), some (.int (k : Nat)), some (ev m p), some .non, none] := h1
    rw [eb, z_seq, h1', z_qn, z_seq]
    generalize lstC (C ++ [c]) = CC at *
    generalize ev m p = EV at *
    simp [rb2, fIsN, isNonD]
end Kx
namespace Kx
open PySem PySem.Spec L2 Dn
/-! replayed -/
theorem filter_len {c : List Str} {o : Str} (h : c.Nodup) (ho : o ∈ c) : (c.filter fun x => !decide (x = o)).length + 1 = c.length := by
  obtain ⟨r, hr, e⟩ := List.getElem_of_mem ho
  have := erase_filter c r hr h
  rw [e] at this
  rw [← this, List.length_eraseIdx_of_lt hr]
  omega
theorem lates_hit (room : Nat) (k : Nat) (c : List Str) (p : Str) (l : List (Bool × Str)) (h : c.length ≤ room) : lates (room : Nat) k (c.length : Nat) ((false, p) :: l) = lates (room : Nat) (k + 1) (c.length : Nat) l := by
  rw [lates]
  simp only [Bool.false_eq_true, false_and, if_false, List.nil_append, Int.add_zero]
  congr 1
  split <;> omega
theorem lates_full (room : Nat) (k : Nat) (c : List Str) (p : Str) (l : List (Bool × Str)) (h : c.length = room) : lates (room : Nat) k (c.length : Nat) ((true, p) :: l) = (k : Int) :: lates (room : Nat) (k + 1) (room : Nat) l := by
  rw [lates, h]
  simp only [true_and, if_true, List.singleton_append]
  congr 2
  split <;> omega
theorem lates_room (room : Nat) (k : Nat) (c : List Str) (p : Str) (l : List (Bool × Str)) (h : c.length ≤ room) (h2 : c.length ≠ room) : lates (room : Nat) k (c.length : Nat) ((true, p) :: l) = lates (room : Nat) (k + 1) ((c ++ [p]).length : Nat) l := by
  rw [lates, List.length_append, List.length_singleton, if_neg (by rintro ⟨_, e⟩; omega), List.nil_append]
  congr 1
  simp only [if_true]
  split <;> omega
abbrev rT : D → Dn.Env → Option Dn.Env := gT 2 (gsCons (gN 7) (gsCons (gN 8) gsNil))
theorem rT_ok (A B L G W E F s7 s8 s9 : Option D) (k : Nat) (m : Bool) (p : Str) : rT (.tup [.int (k : Nat), ev m p]) [A, B, L, G, W, E, F, s7, s8, s9, none] = some [A, B, L, G, W, E, F, some (.int (k : Nat)), some (ev m p), s9, none] := by
  have te := tame (plain_ev (m := m) (p := p))
  generalize ev m p = EV at *
  simp [rT]
theorem rp_loop (room : Nat) (hr : room ≤ 1000) (A B L G W : Option D) (KS : List Key) (DS : List D) : ∀ (l : List (Bool × Str)) (k : Nat) (c gs : List Str) (C : List (List Str)) (s7 s8 s9 : Option D), c.Nodup → c.length ≤ room → gs.length = (lates (room : Nat) k (c.length : Nat) l).length →
    (∀ j : Nat, k ≤ j → lookK KS DS (.inl (j : Int)) = (look (lates (room : Nat) k (c.length : Nat) l) gs j).map D.str) → C.length + l.length ≤ 9000 →
    (∀ C', fo room c l (gs.map D.str) = some C' → ∃ z7 z8 z9, forL rT rBody (its k l) [A, B, L, G, W, some (.odic KS DS), some (.own (lstC (C ++ [c]))), s7, s8, s9, none] = .nx [A, B, L, G, W, some (.odic KS DS), some (.own (lstC (C ++ [c] ++ C'))), z7, z8, z9, none]) ∧
    (fo room c l (gs.map D.str) = none → ∃ z6 z7 z8 z9, forL rT rBody (its k l) [A, B, L, G, W, some (.odic KS DS), some (.own (lstC (C ++ [c]))), s7, s8, s9, none] = .rt .non [A, B, L, G, W, some (.odic KS DS), z6, z7, z8, z9, none])
  | [], k, c, gs, C, s7, s8, s9, nd, hc, hg, hl, hC => by
    have e : gs = [] := List.eq_nil_of_length_eq_zero (by rw [hg]; rfl)
    subst e
    refine ⟨fun C' h => ⟨s7, s8, s9, ?_⟩, fun h => by simp [fo] at h⟩
    have : C' = [] := by simpa [fo] using h.symm
    subst this
    simp [its, forL]
  | (m, p) :: l, k, c, gs, C, s7, s8, s9, nd, hc, hg, hl, hC => by
    rw [List.length_cons] at hC
    have ei : its k ((m, p) :: l) = .tup [.int (k : Nat), ev m p] :: its (k + 1) l := rfl
    -- one step, and what is left
    obtain ⟨o, hm, ho, hn⟩ : ∃ o : Option Str, (m = false → o = none) ∧ lookK KS DS (.inl (k : Int)) = o.map D.str ∧
        ((nxt c m p o = none ∧ fo room c ((m, p) :: l) (gs.map D.str) = none) ∨
         ∃ c' gs', nxt c m p o = some c' ∧ fo room c ((m, p) :: l) (gs.map D.str) = (fo room c' l (gs'.map D.str)).map (c' :: ·) ∧ c'.Nodup ∧ c'.length ≤ room ∧ gs'.length = (lates (room : Nat) (k + 1) (c'.length : Nat) l).length ∧
           ∀ j : Nat, k + 1 ≤ j → lookK KS DS (.inl (j : Int)) = (look (lates (room : Nat) (k + 1) (c'.length : Nat) l) gs' j).map D.str) := by
      have hk := hl k (Nat.le_refl _)
      cases m with
      | false =>
        rw [lates_hit room k c p l hc] at hg hk hl
        rw [look_no fun z => by have := lates_ge _ _ _ _ _ z; omega] at hk
        refine ⟨none, fun _ => rfl, hk, ?_⟩
        by_cases hp : p ∈ c
        · exact .inr ⟨c, gs, by simp [nxt, hp], by rw [fo, if_pos hp], nd, hc, hg, fun j hj => hl j (by omega)⟩
        · exact .inl ⟨by simp [nxt, hp], by rw [fo, if_neg hp]⟩
      | true =>
        by_cases hf : c.length = room
        · rw [lates_full room k c p l hf] at hg hk hl
          cases gs with
          | nil => simp at hg
          | cons o gs =>
            rw [look, if_pos rfl] at hk
            refine ⟨some o, (fun z => by cases z), hk, ?_⟩
            by_cases hp : p ∈ c
            · exact .inl ⟨by simp [nxt, hp], by rw [fo, if_pos hp]⟩
            · by_cases hoc : o ∈ c
              · have fl := filter_len nd hoc
                have len : (c.filter (fun x => !decide (x = o)) ++ [p]).length = room := by rw [List.length_append, List.length_singleton]; omega
                refine .inr ⟨c.filter (fun x => !decide (x = o)) ++ [p], gs, by simp [nxt, hp, hoc], ?_, nodup_in nd List.filter_sublist hp, by omega, ?_, fun j hj => ?_⟩
                · rw [List.map_cons, fo, if_neg hp, if_pos hf, hd1, Option.bind_some]
                  simp only
                  rw [if_pos hoc]
                · rw [len]
                  rw [List.length_cons, List.length_cons] at hg
                  omega
                · rw [len, hl j (by omega), look, if_neg (by omega)]
              · refine .inl ⟨by simp [nxt, hp, hoc], ?_⟩
                rw [List.map_cons, fo, if_neg hp, if_pos hf, hd1, Option.bind_some]
                simp only
                rw [if_neg hoc]
        · rw [lates_room room k c p l hc hf] at hg hk hl
          rw [look_no fun z => by have := lates_ge _ _ _ _ _ z; omega] at hk
          refine ⟨none, fun _ => rfl, hk, ?_⟩
          by_cases hp : p ∈ c
          · exact .inl ⟨by simp [nxt, hp], by rw [fo, if_pos hp]⟩
          · exact .inr ⟨c ++ [p], gs, by simp [nxt, hp], by rw [fo, if_neg hp, if_neg hf], nodup_in nd (List.Sublist.refl _) hp, by rw [List.length_append, List.length_singleton]; omega, hg, fun j hj => hl j (by omega)⟩
    obtain ⟨b1, b2⟩ := rb_one A B L G W KS DS C c k m p o s9 (by omega) (by omega) hm ho
    have tg := rT_ok A B L G W (some (.odic KS DS)) (some (.own (lstC (C ++ [c])))) s7 s8 s9 k m p
    rcases hn with ⟨n1, n2⟩ | ⟨c', gs', n1, n2, n3, n4, n5, n6⟩
    · refine ⟨(fun C' h => by rw [n2] at h; cases h), fun _ => ?_⟩
      have b := b2 n1
      refine ⟨some (.own (lstC (C ++ [c]))), some (.int (k : Nat)), some (ev m p), some .non, ?_⟩
      rw [ei]
      unfold forL
      rw [tg]
      simp only [b]
    · obtain ⟨z, b⟩ := b1 c' n1
      obtain ⟨i1, i2⟩ := rp_loop room hr A B L G W KS DS l (k + 1) c' gs' (C ++ [c]) (some (.int (k : Nat))) (some (ev m p)) z n3 n4 n5 n6 (by rw [List.length_append, List.length_singleton]; omega)
      constructor
      · intro C' h
        rw [n2] at h
        obtain ⟨C2, h2, rfl⟩ := Option.map_eq_some_iff.mp h
        obtain ⟨z7, z8, z9, i⟩ := i1 C2 h2
        refine ⟨z7, z8, z9, ?_⟩
        rw [ei]
        refine forL_step tg b ?_
        rw [i, List.append_assoc (C ++ [c])]
        rfl
      · intro h
        rw [n2] at h
        have h2 : fo room c' l (gs'.map D.str) = none := by
          cases e : fo room c' l (gs'.map D.str) with
          | none => rfl
          | some x => rw [e] at h; cases h
        obtain ⟨z6, z7, z8, z9, i⟩ := i2 h2
        refine ⟨z6, z7, z8, z9, ?_⟩
        rw [ei]
        exact forL_step tg b i
end Kx
namespace Kx
open PySem PySem.Spec L2 Dn
/-- a thing that is no list -/
structure NotL (d : D) : Prop where
  pl : plain d = true
  rd : ∀ e, rd e d = some d
  ty : ∃ t, tyD d = some t ∧ isiB t "list" = false
abbrev re1 : Dn.Env → SOut := dSet 4 (dCall f_evicting (dCons (dVar 0) (dCons (dVar 1) (dCons (dVar 2) dNil))))
abbrev re2 : Dn.Env → SOut := (dIfS (dOr (dNot (dTru (dOn (fIsi "list") (dVar 3)))) (dOr (dB (dOp fNe (dCons (dOp fLen (dCons (dVar 3) dNil)) (dCons (dOp fLen (dCons (dVar 4) dNil)) dNil)))) (dNot (dTru (dOp fAll (dCons (dLc (dItems (dVar 3)) (gN 10) (fun env => .ok true env) (dCall f_is_page (dCons (dVar 10) dNil)) [10]) dNil)))))) (dRet (dC .non)) dSkip)
abbrev re3 : Dn.Env → SOut := (dSet 5 (dDc (dZip (dCons (dVar 4) (dCons (dVar 3) dNil))) dcT (fun env => .ok true env) (dVar 7) (dVar 10) [7, 10]))
abbrev re4 : Dn.Env → SOut := (dSet 6 (dFz (dLst (dCons (dOp fListOf (dCons (dVar 1) dNil)) dNil))))
abbrev re5 : Dn.Env → SOut := (dFor (dEnum (dVar 2)) rT rBody)
abbrev re6 : Dn.Env → SOut := (dRet (dVar 6))
theorem ge_replayed : g_replayed = dSeq re1 (dSeq re2 (dSeq re3 (dSeq re4 (dSeq re5 re6)))) := rfl
theorem re2_not (A T L : D) (ls : List Int) (d : D) (h : NotL d) : re2 [some A, some T, some L, some d, some (.own (ls.map D.int)), none, none, none, none, none, none] = .rt .non [some A, some T, some L, some d, some (.own (ls.map D.int)), none, none, none, none, none, none] := by
  have t := tame h.pl
  have r := h.rd
  obtain ⟨ty, h1, h2⟩ := h.ty
  generalize ls.map D.int = LS at *
  simp [re2, t, r, h1, h2]
theorem pages_all (A T L W : D) (g : List D) (hi : ∀ d ∈ g, Itm d) (hl : g.length ≤ 1000) :
    ∃ bs : List Bool, dLc (dItems (dVar 3)) (gN 10) (fun env => .ok true env) (dCall f_is_page (dCons (dVar 10) dNil)) [10] [some A, some T, some L, some (.lst g), some W, none, none, none, none, none, none] = .ok (.own (bs.map D.bl)) [some A, some T, some L, some (.lst g), some W, none, none, none, none, none, none] ∧ bs.all id = g.all isS := by
  have pl := plain_itms g hi
  refine ⟨g.map isS, ?_, by rw [List.all_map]; rfl⟩
  obtain ⟨e, q, w⟩ := lc_map (t := gN 10) (g := dCall f_is_page (dCons (dVar 10) dNil)) (own := [10]) (W := [some A, some T, some L, some (.lst g), some W, none, none, none, none, none, none]) (fun d => .bl (isS d)) g [some A, some T, some L, some (.lst g), some W, none, none, none, none, none, none] rfl
    (Nat.le_trans hl (by decide)) (fun d hd => by
      have ip := (hi d hd).is_page
      have t := tame (hi d hd).plain
      refine ⟨[some A, some T, some L, some (.lst g), some W, none, none, none, none, none, some d], by simp, [some A, some T, some L, some (.lst g), some W, none, none, none, none, none, some d], ?_, by simp, by simp [wipeE], by simp [wipeE]⟩
      simp [ip, t])
  have e2 : (g.map fun d => frz ((fun d => D.bl (isS d)) d)) = (g.map isS).map D.bl := by rw [List.map_map]; rfl
  rw [e2] at q
  have fz := frzL_plain _ pl
  have nb := plainL_noBor _ pl
  generalize (g.map isS).map D.bl = BS at *
  simp [pl, nb, fz, q, w]
theorem mapM_bl (bs : List Bool) : (bs.map D.bl).mapM blD = some bs := by
  induction bs with
  | nil => rfl
  | cons b bs ih => rw [List.map_cons, List.mapM_cons, ih]; rfl
theorem re2_lst (A T L : D) (ls : List Int) (g : List D) (hi : ∀ d ∈ g, Itm d) (hl : g.length ≤ 1000) (hs : ls.length ≤ 1000) : re2 [some A, some T, some L, some (.lst g), some (.own (ls.map D.int)), none, none, none, none, none, none] =
    if g.length = ls.length ∧ g.all isS = true then .nx [some A, some T, some L, some (.lst g), some (.own (ls.map D.int)), none, none, none, none, none, none] else .rt .non [some A, some T, some L, some (.lst g), some (.own (ls.map D.int)), none, none, none, none, none, none] := by
  obtain ⟨bs, q, qb⟩ := pages_all A T L (.own (ls.map D.int)) g hi hl
  have pl := plain_itms g hi
  have nb := plainL_noBor _ pl
  have zg : g.length ≤ 16777216 := by omega
  have zs : (ls.map D.int).length ≤ 16777216 := by rw [List.length_map]; omega
  have lm : (ls.map D.int).length = ls.length := List.length_map ..
  have mb := mapM_bl bs
  have nbl := noBor_ints ls
  generalize ls.map D.int = LS at *
  generalize bs.map D.bl = BS at *
  by_cases h1 : g.length = ls.length
  · have h2 : ((g.length : Int) == (ls.length : Int)) = true := by simp [h1]
    cases h3 : g.all isS with
    | true =>
      rw [h3] at qb
      rw [if_pos ⟨h1, rfl⟩]
      simp [re2, isiB, pl, zg, zs, lm, h2, ↓q, mb, qb]
    | false =>
      rw [h3] at qb
      rw [if_neg (fun z => by simp at z)]
      simp [re2, isiB, pl, zg, zs, lm, h2, ↓q, mb, qb]
  · have h2 : ((g.length : Int) == (ls.length : Int)) = false := by simp; omega
    rw [if_neg (fun z => h1 z.1)]
    simp [re2, isiB, pl, zg, zs, lm, h2]
end Kx
namespace Kx
open PySem PySem.Spec L2 Dn
theorem re3_ok (A T L : D) (ls : List Int) (gs : List Str) (hn : ls.Nodup) (hl : ls.length = gs.length) (hs : ls.length ≤ 1000) : re3 [some A, some T, some L, some (.lst (gs.map D.str)), some (.own (ls.map D.int)), none, none, none, none, none, none] =
    .nx [some A, some T, some L, some (.lst (gs.map D.str)), some (.lst (ls.map D.int)), some (.odic (ls.map Sum.inl) (gs.map D.str)), none, none, none, none, none] := by
  have pi := plain_ints ls
  have ps := plain_strs gs
  have nbi := noBor_ints ls
  have fzi := frzL_plain _ pi
  have zp := zip_plain ls gs
  obtain ⟨e, q, w⟩ := dc_loop (some A) (some T) (some L) (some (.lst (gs.map D.str))) (some (.lst (ls.map D.int))) none none none ls gs [] [] [some A, some T, some L, some (.lst (gs.map D.str)), some (.lst (ls.map D.int)), none, none, none, none, none, none] (by simpa using hn) hl (by simp; omega) rfl rfl
  have zi : dZip (dCons (dVar 4) (dCons (dVar 3) dNil)) [some A, some T, some L, some (.lst (gs.map D.str)), some (.own (ls.map D.int)), none, none, none, none, none, none] = .ok (zipD (ls.map D.int) (gs.map D.str)) [some A, some T, some L, some (.lst (gs.map D.str)), some (.lst (ls.map D.int)), none, none, none, none, none, none] := by
    have tg := tame (d := .lst (gs.map D.str)) (by simpa using ps)
    refine dZip_ok (ds := [.bor 4, .lst (gs.map D.str)]) (d := .lst (ls.map D.int)) (e := .lst (gs.map D.str)) (xs := ls.map D.int) (ys := gs.map D.str) (env1 := [some A, some T, some L, some (.lst (gs.map D.str)), some (.own (ls.map D.int)), none, none, none, none, none, none]) (env2 := [some A, some T, some L, some (.lst (gs.map D.str)), some (.lst (ls.map D.int)), none, none, none, none, none, none]) ?_ ?_ ?_ ?_
    · simp [ps]
    · generalize ls.map D.int = LS at *
      generalize gs.map D.str = GS at *
      have mb : ∀ e, mv (.bor 4) e = mbO (.bor 4) (frzAt e 4) := fun e => z_mvb e (.bor 4) rfl
      simp [↓mb, frzAt, mbO, nbi, fzi, pi, tg]
    · simp [fzi]
    · simp [tg]
  simp only [List.nil_append, List.map_nil] at q
  have nbs := noBor_strs gs
  generalize ls.map D.int = LS at *
  generalize gs.map D.str = GS at *
  generalize zipD LS GS = Z at *
  generalize ls.map Sum.inl = KS at *
  have dz : dDc (dZip (dCons (dVar 4) (dCons (dVar 3) dNil))) dcT (fun env => .ok true env) (dVar 7) (dVar 10) [7, 10] [some A, some T, some L, some (.lst GS), some (.own LS), none, none, none, none, none, none] = .ok (.odic KS GS) [some A, some T, some L, some (.lst GS), some (.lst LS), none, none, none, none, none, none] := by
    rw [z_dc, zi, z_dco, if_pos zp, q, z_dc2, w]
  simp [re3, ↓dz, nbs, ps]
theorem re4_ok (A L G W E : Option D) (init : List Str) : re4 [A, some (.tup (init.map D.str)), L, G, W, E, none, none, none, none, none] = .nx [A, some (.tup (init.map D.str)), L, G, W, E, some (.own (lstC [init])), none, none, none, none] := by
  have t := tame (d := .tup (init.map D.str)) (by simpa using plain_strs init)
  have p0 := plain_strs init
  have n0 := noBor_strs init
  have f0 := frzL_plain _ p0
  have sq : ∀ e, (rd e (.tup (init.map D.str))).bind seqA = some (init.map D.str) := fun _ => rfl
  show re4 _ = .nx [A, some (.tup (init.map D.str)), L, G, W, E, some (.own [.lst (init.map D.str)]), none, none, none, none]
  generalize D.tup (init.map D.str) = T at *
  generalize init.map D.str = I at *
  have sl : ∀ e, fListOf e [T] = some (.own I) := fun e => by
    unfold fListOf
    simp only [sq, Option.bind_some, if_pos p0]
  simp [re4, t, ↓sl, p0, n0, f0]
end Kx
namespace Kx
open PySem PySem.Spec L2 Dn
theorem hd1_some {g : List D} {o : Str} {g' : List D} (h : hd1 g = some (o, g')) : g = .str o :: g' := by
  unfold hd1 at h
  split at h
  · cases h; rfl
  · cases h
theorem fo_needs (room : Nat) : ∀ (l : List (Bool × Str)) (k : Nat) (c : List Str) (g : List D) (C : List (List Str)), c.Nodup → c.length ≤ room → fo room c l g = some C → g.length = (lates (room : Nat) k (c.length : Nat) l).length ∧ g.all isS = true ∧ C.length = l.length ∧ ∀ x ∈ C, x.Nodup ∧ x.length ≤ room
  | [], k, c, g, C, nd, hc, h => by
    unfold fo at h
    split at h
    · rename_i e
      cases g with
      | nil => cases h; exact ⟨rfl, rfl, rfl, by simp⟩
      | cons => cases e
    · cases h
  | (false, p) :: l, k, c, g, C, nd, hc, h => by
    rw [fo] at h
    split at h
    · obtain ⟨C2, h2, rfl⟩ := Option.map_eq_some_iff.mp h
      rw [lates_hit room k c p l hc]
      obtain ⟨a, b, d, e⟩ := fo_needs room l (k + 1) c g C2 nd hc h2
      refine ⟨a, b, by rw [List.length_cons, List.length_cons, d], fun x hx => ?_⟩
      rcases List.mem_cons.mp hx with rfl | hx
      · exact ⟨nd, hc⟩
      · exact e x hx
    · cases h
  | (true, p) :: l, k, c, g, C, nd, hc, h => by
    rw [fo] at h
    split at h
    · cases h
    · rename_i hp
      split at h
      · rename_i hf
        obtain ⟨⟨o, g'⟩, h1, h2⟩ := Option.bind_eq_some_iff.mp h
        simp only at h2
        split at h2
        · rename_i ho
          obtain ⟨C2, h3, rfl⟩ := Option.map_eq_some_iff.mp h2
          rw [hd1_some h1, lates_full room k c p l hf]
          have fl := filter_len nd ho
          have len : (c.filter (fun x => !decide (x = o)) ++ [p]).length = room := by rw [List.length_append, List.length_singleton]; omega
          have nd2 := nodup_in nd (List.filter_sublist (p := fun x => !decide (x = o))) hp
          obtain ⟨a, b, d, e⟩ := fo_needs room l (k + 1) _ g' C2 nd2 (by omega) h3
          rw [len] at a
          refine ⟨by rw [List.length_cons, List.length_cons, a], by rw [List.all_cons, b]; rfl, by rw [List.length_cons, List.length_cons, d], fun x hx => ?_⟩
          rcases List.mem_cons.mp hx with rfl | hx
          · exact ⟨nd2, by omega⟩
          · exact e x hx
        · cases h2
      · rename_i hf
        obtain ⟨C2, h3, rfl⟩ := Option.map_eq_some_iff.mp h
        rw [lates_room room k c p l hc hf]
        have nd2 := nodup_in nd (List.Sublist.refl _) hp
        have len : (c ++ [p]).length ≤ room := by rw [List.length_append, List.length_singleton]; omega
        obtain ⟨a, b, d, e⟩ := fo_needs room l (k + 1) _ g C2 nd2 len h3
        refine ⟨a, b, by rw [List.length_cons, List.length_cons, d], fun x hx => ?_⟩
        rcases List.mem_cons.mp hx with rfl | hx
        · exact ⟨nd2, len⟩
        · exact e x hx
theorem all_strs : ∀ {g : List D}, g.all isS = true → ∃ gs : List Str, g = gs.map D.str
  | [], _ => ⟨[], rfl⟩
  | d :: g, h => by
    rw [List.all_cons, Bool.and_eq_true] at h
    obtain ⟨gs, e⟩ := all_strs h.2
    cases d with
    | str x => exact ⟨x :: gs, by rw [e]; rfl⟩
    | _ => cases h.1
def gl : D → Option (List D)
  | .lst g => some g
  | _ => none
def res (room : Nat) (init : List Str) (l : List (Bool × Str)) (d : D) : Option (List (List Str)) := (gl d).bind (fo room init l)
def repD (init : List Str) : Option (List (List Str)) → D
  | none => .non
  | some C => .own (lstC (init :: C))
/-- what a history may be -/
def Thg (d : D) : Prop := NotL d ∧ gl d = none ∨ ∃ g, d = .lst g ∧ g.length ≤ 1000 ∧ ∀ e ∈ g, Itm e
theorem Thg.plain {d : D} (h : Thg d) : plain d = true := by
  rcases h with ⟨h, _⟩ | ⟨g, rfl, _, h⟩
  · exact h.pl
  · simpa using plain_itms g h
theorem replayed_ok {room : Nat} {init : List Str} {l : List (Bool × Str)} {d : D} (hr : room ≤ 1000) (nd : init.Nodup) (hi : init.length ≤ room) (hl : l.length ≤ 1000) (hd : Thg d) :
    f_replayed [.int (room : Nat), .tup (init.map D.str), .lst (evs l), d] = .ok (repD init (res room init l d)) [some (.int (room : Nat)), some (.tup (init.map D.str)), some (.lst (evs l)), some d] := by
  have t1 := tame (d := .tup (init.map D.str)) (by simpa using plain_strs init)
  have t2 := tame (d := .lst (evs l)) (by simpa using plain_evs l)
  have t3 := tame hd.plain
  have ev := evicting_ok (room : Nat) init l hl
  have ll : (lates (room : Nat) 0 (init.length : Nat) l).length ≤ 1000 := Nat.le_trans (lates_len ..) hl
  have h1 : re1 [some (.int (room : Nat)), some (.tup (init.map D.str)), some (.lst (evs l)), some d, none, none, none, none, none, none, none] = .nx [some (.int (room : Nat)), some (.tup (init.map D.str)), some (.lst (evs l)), some d, some (.own ((lates (room : Nat) 0 (init.length : Nat) l).map D.int)), none, none, none, none, none, none] := by
    have nb := noBor_ints (lates (room : Nat) 0 (init.length : Nat) l)
    have nl := noLst_ints (lates (room : Nat) 0 (init.length : Nat) l)
    generalize D.tup (init.map D.str) = T at *
    generalize D.lst (evs l) = L at *
    generalize (lates (room : Nat) 0 (init.length : Nat) l).map D.int = LS at *
    simp [re1, t1, t2, ev, nb, nl]
  have out : ∀ z4 z5 z6 z7 z8 z9 z10, outsOf 4 (fun i => [0, 1, 2, 3].contains i) [some (.int (room : Nat)), some (.tup (init.map D.str)), some (.lst (evs l)), some d, z4, z5, z6, z7, z8, z9, z10] = [some (.int (room : Nat)), some (.tup (init.map D.str)), some (.lst (evs l)), some d] := fun z4 z5 z6 z7 z8 z9 z10 => by
    generalize D.tup (init.map D.str) = T at *
    generalize D.lst (evs l) = L at *
    simp [outsOf, List.range, List.range.loop]
  have go : ∀ r z4 z5 z6 z7 z8 z9 z10, g_replayed [some (.int (room : Nat)), some (.tup (init.map D.str)), some (.lst (evs l)), some d, none, none, none, none, none, none, none] = .rt r [some (.int (room : Nat)), some (.tup (init.map D.str)), some (.lst (evs l)), some d, z4, z5, z6, z7, z8, z9, z10] →
      f_replayed [.int (room : Nat), .tup (init.map D.str), .lst (evs l), d] = .ok r [some (.int (room : Nat)), some (.tup (init.map D.str)), some (.lst (evs l)), some d] := fun r z4 z5 z6 z7 z8 z9 z10 hg => fnD_rt hg rfl (out ..)
  rcases hd with ⟨hn, h0⟩ | ⟨g, rfl, hgl, hg⟩
  · have e : repD init (res room init l d) = .non := by unfold res; rw [h0]; rfl
    rw [e]
    refine go _ (some (.own ((lates (room : Nat) 0 (init.length : Nat) l).map D.int))) none none none none none none ?_
    rw [ge_replayed, z_seq, h1, z_qn, z_seq]
    exact (congrArg (fun z => qO z _) (re2_not _ _ _ _ _ hn)).trans rfl
  · have h2 := re2_lst (.int (room : Nat)) (.tup (init.map D.str)) (.lst (evs l)) (lates (room : Nat) 0 (init.length : Nat) l) g hg hgl ll
    have er : res room init l (.lst g) = fo room init l g := rfl
    rw [er]
    by_cases hc : g.length = (lates (room : Nat) 0 (init.length : Nat) l).length ∧ g.all isS = true
    · rw [if_pos hc] at h2
      obtain ⟨gs, rfl⟩ := all_strs hc.2
      have hlen : gs.length = (lates (room : Nat) 0 (init.length : Nat) l).length := by rw [← hc.1, List.length_map]
      have h3 := re3_ok (.int (room : Nat)) (.tup (init.map D.str)) (.lst (evs l)) (lates (room : Nat) 0 (init.length : Nat) l) gs (lates_pw ..) hlen.symm ll
      have h4 := re4_ok (some (.int (room : Nat))) (some (.lst (evs l))) (some (.lst (gs.map D.str))) (some (.lst ((lates (room : Nat) 0 (init.length : Nat) l).map D.int))) (some (.odic ((lates (room : Nat) 0 (init.length : Nat) l).map Sum.inl) (gs.map D.str))) init
      obtain ⟨l1, l2⟩ := rp_loop room hr (some (.int (room : Nat))) (some (.tup (init.map D.str))) (some (.lst (evs l))) (some (.lst (gs.map D.str))) (some (.lst ((lates (room : Nat) 0 (init.length : Nat) l).map D.int))) ((lates (room : Nat) 0 (init.length : Nat) l).map Sum.inl) (gs.map D.str) l 0 init gs [] none none none nd hi hlen (fun j _ => look_ok ..) (by simp; omega)
      have ent : ∀ E G W X C, dEnum (dVar 2) [E, G, some (.lst (evs l)), W, X, C, some (.own (lstC [init])), none, none, none, none] = .ok (its 0 l) [E, G, some (.lst (evs l)), W, X, C, some (.own (lstC [init])), none, none, none, none] := fun E G W X C => by
        have en := enD_its l
        have it : seqF (.lst (evs l)) = some (evs l) := rfl
        generalize D.lst (evs l) = L at *
        simp [t2, it, en]
      have h5 : ∀ r, forL rT rBody (its 0 l) [some (.int (room : Nat)), some (.tup (init.map D.str)), some (.lst (evs l)), some (.lst (gs.map D.str)), some (.lst ((lates (room : Nat) 0 (init.length : Nat) l).map D.int)), some (.odic ((lates (room : Nat) 0 (init.length : Nat) l).map Sum.inl) (gs.map D.str)), some (.own (lstC [init])), none, none, none, none] = r →
          re5 [some (.int (room : Nat)), some (.tup (init.map D.str)), some (.lst (evs l)), some (.lst (gs.map D.str)), some (.lst ((lates (room : Nat) 0 (init.length : Nat) l).map D.int)), some (.odic ((lates (room : Nat) 0 (init.length : Nat) l).map Sum.inl) (gs.map D.str)), some (.own (lstC [init])), none, none, none, none] = r := fun r hr => by
        have pi := its_plain l 0
        have e := ent (some (.int (room : Nat))) (some (.tup (init.map D.str))) (some (.lst (gs.map D.str))) (some (.lst ((lates (room : Nat) 0 (init.length : Nat) l).map D.int))) (some (.odic ((lates (room : Nat) 0 (init.length : Nat) l).map Sum.inl) (gs.map D.str)))
        generalize [some (D.int (room : Nat)), some (.tup (init.map D.str)), some (.lst (evs l)), some (.lst (gs.map D.str)), some (.lst ((lates (room : Nat) 0 (init.length : Nat) l).map D.int)), some (.odic ((lates (room : Nat) 0 (init.length : Nat) l).map Sum.inl) (gs.map D.str)), some (.own (lstC [init])), none, none, none, none] = EE at *
        generalize its 0 l = II at *
        simp [re5, ↓e, pi, hr]
      cases hf : fo room init l (gs.map D.str) with
      | none =>
        obtain ⟨z6, z7, z8, z9, i⟩ := l2 hf
        refine go _ (some (.lst ((lates (room : Nat) 0 (init.length : Nat) l).map D.int))) (some (.odic ((lates (room : Nat) 0 (init.length : Nat) l).map Sum.inl) (gs.map D.str))) z6 z7 z8 z9 none ?_
        rw [ge_replayed, z_seq, h1, z_qn, z_seq, h2, z_qn, z_seq, h3, z_qn, z_seq, h4, z_qn, z_seq, h5 _ i]
        rfl
      | some C =>
        obtain ⟨z7, z8, z9, i⟩ := l1 C hf
        refine go _ (some (.lst ((lates (room : Nat) 0 (init.length : Nat) l).map D.int))) (some (.odic ((lates (room : Nat) 0 (init.length : Nat) l).map Sum.inl) (gs.map D.str))) none z7 z8 z9 none ?_
        rw [ge_replayed, z_seq, h1, z_qn, z_seq, h2, z_qn, z_seq, h3, z_qn, z_seq, h4, z_qn, z_seq, h5 _ i, z_qn]
        have nC := plainL_noBor _ (plain_lstC (init :: C))
        show re6 [_, _, _, _, _, _, some (.own (lstC (init :: C))), _, _, _, _] = .rt (.own (lstC (init :: C))) _
        generalize lstC (init :: C) = CC at *
        simp [re6, nC, retV, takeL]
    · rw [if_neg hc] at h2
      have e : fo room init l g = none := by
        cases hf : fo room init l g with
        | none => rfl
        | some C =>
          obtain ⟨a, b, _⟩ := fo_needs room l 0 init g C nd hi hf
          exact absurd ⟨a, b⟩ hc
      rw [e]
      refine go _ (some (.own ((lates (room : Nat) 0 (init.length : Nat) l).map D.int))) none none none none none none ?_
      rw [ge_replayed, z_seq, h1, z_qn, z_seq, h2]
      rfl
end Kx
namespace Kx
open PySem PySem.Spec L2 Dn
/-! sorted contents -/
def leS (a b : Str) : Bool := decide (a.cps.toList ≤ b.cps.toList)
def srtS (c : List Str) : List Str := c.mergeSort leS
theorem leP_str (a b : Str) : leP (.str a) (.str b) = leS a b := by
  have := PySem.W.dataLe_str (β := Str) fun b => b
  have := congrFun (congrFun this a) b
  exact this
theorem srtD_strs (c : List Str) : srtD (c.map D.str) = (srtS c).map D.str := (PySem.W.sort_maps (r := leS) (s := leP) D.str (l := c) fun a _ b _ => (leP_str a b).symm).symm
theorem srtS_perm (c : List Str) : (srtS c).Perm c := List.mergeSort_perm ..
theorem leS_trans (a b c : Str) (h1 : leS a b = true) (h2 : leS b c = true) : leS a c = true := decide_eq_true (List.le_trans (of_decide_eq_true h1) (of_decide_eq_true h2))
theorem leS_total (a b : Str) : (leS a b || leS b a) = true := by
  rcases List.le_total a.cps.toList b.cps.toList with h | h
  · unfold leS; simp [h]
  · unfold leS; simp [h]
theorem srtS_pw (c : List Str) : (srtS c).Pairwise fun a b => leS a b = true := List.pairwise_mergeSort leS_trans leS_total c
theorem srtS_eq {c c' : List Str} (h : c.Perm c') : srtS c = srtS c' := by
  refine List.Perm.eq_of_pairwise (le := fun a b => leS a b = true) ?_ (srtS_pw c) (srtS_pw c') ((srtS_perm c).trans (h.trans (srtS_perm c').symm))
  intro a b _ _ h1 h2
  have e : a.cps.toList = b.cps.toList := List.le_antisymm (of_decide_eq_true h1) (of_decide_eq_true h2)
  obtain ⟨⟨x⟩⟩ := a
  obtain ⟨⟨y⟩⟩ := b
  cases e
  rfl
theorem srtS_len (c : List Str) : (srtS c).length = c.length := (srtS_perm c).length_eq
theorem srtS_mem {c : List Str} {x : Str} : x ∈ srtS c ↔ x ∈ c := (srtS_perm c).mem_iff
theorem sortOk_strs (c : List Str) (h : ∀ x ∈ c, pageB x = true) : sortOk (c.map D.str) = true := by
  have t := txt_strs h
  unfold sortOk
  have h1 := plain_strs c
  have h2 : PyData.canLayAll0 (pyL (c.map D.str)) = true := by rw [pyL_strs]; exact t.lay
  have h3 : alikeL (c.map D.str) = true := by
    unfold alikeL
    rw [List.all_eq_true]
    intro d hd
    rw [List.all_eq_true]
    intro e he
    obtain ⟨a, _, rfl⟩ := List.mem_map.mp hd
    obtain ⟨b, _, rfl⟩ := List.mem_map.mp he
    show PySem.W.alike (.str a) (.str b) = true
    simp [PySem.W.alike]
  have h4 : ((c.map D.str).all fun d => notTN (py d)) = true := by
    rw [List.all_eq_true]
    intro d hd
    obtain ⟨a, _, rfl⟩ := List.mem_map.mp hd
    rfl
  have h5 : ((c.map D.str).all fun d => decide ((py d).depth ≤ 50)) = true := by
    rw [List.all_eq_true]
    intro d hd
    obtain ⟨a, _, rfl⟩ := List.mem_map.mp hd
    show decide ((PyData.str a).depth ≤ 50) = true
    simp [PyData.depth]
  rw [h1, h2, h3, h4, h5, Bool.or_true]
  rfl
theorem sorted_ok (env : Dn.Env) (d : D) (c : List Str) (h : ∀ x ∈ c, pageB x = true) (hd : (rd env d).bind seqA = some (c.map D.str)) : fSortedA env [d] = some (.own ((srtS c).map D.str)) := by
  rw [z_sortedA, hd, Option.bind_some, if_pos (sortOk_strs c h), srtD_strs]
def tpC (c : List Str) : D := .tup ((srtS c).map D.str)
theorem plain_tpC (c : List Str) : plain (tpC c) = true := by simpa [tpC] using plain_strs (srtS c)
def tpL (C : List (List Str)) : List D := C.map tpC
theorem plain_tpL (C : List (List Str)) : plainL (tpL C) = true := by
  unfold tpL
  induction C with
  | nil => rfl
  | cons c C ih => rw [List.map_cons, plainL_cons, ih, plain_tpC]; rfl
theorem noLst_strs (l : List Str) : noLstL (l.map D.str) = true := by
  induction l with
  | nil => rfl
  | cons a l ih => simpa using ih
theorem noLst_tup (C : List (List Str)) : noLstL (tpL C) = true := by
  unfold tpL
  induction C with
  | nil => rfl
  | cons c C ih =>
    rw [List.map_cons]
    have := noLst_strs (srtS c)
    simp [tpC, ih, this]
theorem fo_pages (room : Nat) : ∀ (l : List (Bool × Str)) (c : List Str) (g : List D) (C : List (List Str)), (∀ x ∈ c, pageB x = true) → (∀ q ∈ l, pageB q.2 = true) → fo room c l g = some C → ∀ c' ∈ C, ∀ x ∈ c', pageB x = true
  | [], c, g, C, hc, hl, h => by
    unfold fo at h
    split at h
    · cases h; simp
    · cases h
  | (false, p) :: l, c, g, C, hc, hl, h => by
    rw [fo] at h
    split at h
    · obtain ⟨C2, h2, rfl⟩ := Option.map_eq_some_iff.mp h
      intro c' hc'
      rcases List.mem_cons.mp hc' with rfl | hc'
      · exact hc
      · exact fo_pages room l c g C2 hc (fun q hq => hl q (List.mem_cons_of_mem _ hq)) h2 c' hc'
    · cases h
  | (true, p) :: l, c, g, C, hc, hl, h => by
    have hp : pageB p = true := hl (true, p) List.mem_cons_self
    have hl2 : ∀ q ∈ l, pageB q.2 = true := fun q hq => hl q (List.mem_cons_of_mem _ hq)
    rw [fo] at h
    split at h
    · cases h
    · split at h
      · obtain ⟨⟨o, g'⟩, h1, h2⟩ := Option.bind_eq_some_iff.mp h
        simp only at h2
        split at h2
        · obtain ⟨C2, h3, rfl⟩ := Option.map_eq_some_iff.mp h2
          have hc2 : ∀ x ∈ c.filter (fun x => !decide (x = o)) ++ [p], pageB x = true := fun x hx => by
            rcases List.mem_append.mp hx with hx | hx
            · exact hc x (List.mem_filter.mp hx).1
            · rw [List.mem_singleton.mp hx]; exact hp
          intro c' hc'
          rcases List.mem_cons.mp hc' with rfl | hc'
          · exact hc2
          · exact fo_pages room l _ g' C2 hc2 hl2 h3 c' hc'
        · cases h2
      · obtain ⟨C2, h3, rfl⟩ := Option.map_eq_some_iff.mp h
        have hc2 : ∀ x ∈ c ++ [p], pageB x = true := fun x hx => by
          rcases List.mem_append.mp hx with hx | hx
          · exact hc x hx
          · rw [List.mem_singleton.mp hx]; exact hp
        intro c' hc'
        rcases List.mem_cons.mp hc' with rfl | hc'
        · exact hc2
        · exact fo_pages room l _ g C2 hc2 hl2 h3 c' hc'
/-- what the functions are asked with -/
structure Ask (room : Int) (xs : List Str) (l : List (Bool × Str)) : Prop where
  ge : 1 ≤ room
  shelf : Shelf xs
  fits : (xs.length : Int) ≤ room
  log : Log l
abbrev pr1 : Dn.Env → SOut := (dExpr (dCall f_check_log (dCons (dVar 0) (dCons (dVar 1) (dCons (dVar 2) dNil)))))
abbrev pr2 : Dn.Env → SOut := (dSet 4 (dCall f_replayed (dCons (dVar 0) (dCons (dVar 1) (dCons (dVar 2) (dCons (dVar 3) dNil))))))
abbrev pr3 : Dn.Env → SOut := (dIfS (dB (dOp fIsN (dCons (dVar 4) (dCons (dC .non) dNil)))) (dRaise "InvalidHistory") dSkip)
abbrev pr4 : Dn.Env → SOut := (dRet (dLc (dItems (dVar 4)) (gN 5) (fun env => .ok true env) (dOp fTupOf (dCons (dOp fSortedA (dCons (dVar 5) dNil)) dNil)) [5]))
theorem ge_replay : g_replay = dSeq pr1 (dSeq pr2 (dSeq pr3 pr4)) := rfl
def eH : Exn := { cls := "InvalidHistory" }
theorem tup_step (env : Dn.Env) (s : List Str) : fTupOf env [.own (s.map D.str)] = some (.tup (s.map D.str)) := by
  have p := plain_strs s
  generalize s.map D.str = S at *
  simp [p]
theorem replay_ok {room : Nat} {init : List Str} {l : List (Bool × Str)} {d : D} (hr : room ≤ 1000) (h : Ask (room : Nat) init l) (hd : Thg d) :
    f_replay [.int (room : Nat), .tup (init.map D.str), .lst (evs l), d] = match res room init l d with
      | none => .err eH [some (.int (room : Nat)), some (.tup (init.map D.str)), some (.lst (evs l)), some d]
      | some C => .ok (.own (tpL (init :: C))) [some (.int (room : Nat)), some (.tup (init.map D.str)), some (.lst (evs l)), some d] := by
  have t1 := tame (d := .tup (init.map D.str)) (by simpa using plain_strs init)
  have t2 := tame (d := .lst (evs l)) (by simpa using plain_evs l)
  have t3 := tame hd.plain
  have ck := check_log_ok h.ge h.shelf h.fits h.log
  have rp := replayed_ok hr h.shelf.1 (by have := h.fits; omega) h.log.1 hd
  have h1 : pr1 [some (.int (room : Nat)), some (.tup (init.map D.str)), some (.lst (evs l)), some d, none, none] = .nx [some (.int (room : Nat)), some (.tup (init.map D.str)), some (.lst (evs l)), some d, none, none] := by
    generalize D.tup (init.map D.str) = T at *
    generalize D.lst (evs l) = L at *
    simp [pr1, t1, t2, t3, ck]
  have h2 : pr2 [some (.int (room : Nat)), some (.tup (init.map D.str)), some (.lst (evs l)), some d, none, none] = .nx [some (.int (room : Nat)), some (.tup (init.map D.str)), some (.lst (evs l)), some d, some (repD init (res room init l d)), none] := by
    have nb : noBor (repD init (res room init l d)) = true := by
      cases res room init l d with
      | none => rfl
      | some C => simpa [repD] using plainL_noBor _ (plain_lstC (init :: C))
    generalize D.tup (init.map D.str) = T at *
    generalize D.lst (evs l) = L at *
    generalize repD init (res room init l d) = R at *
    simp [pr2, t1, t2, t3, rp, nb]
  have out : ∀ z4 z5, outsOf 4 (fun i => [0, 1, 2, 3].contains i) [some (.int (room : Nat)), some (.tup (init.map D.str)), some (.lst (evs l)), some d, z4, z5] = [some (.int (room : Nat)), some (.tup (init.map D.str)), some (.lst (evs l)), some d] := fun z4 z5 => by
    generalize D.tup (init.map D.str) = T at *
    generalize D.lst (evs l) = L at *
    simp [outsOf, List.range, List.range.loop]
  cases e : res room init l d with
  | none =>
    rw [e] at h2
    have hg : g_replay [some (.int (room : Nat)), some (.tup (init.map D.str)), some (.lst (evs l)), some d, none, none] = .err eH [some (.int (room : Nat)), some (.tup (init.map D.str)), some (.lst (evs l)), some d, some .non, none] := by
      rw [ge_replay, z_seq, h1, z_qn, z_seq, h2, z_qn]
      generalize D.tup (init.map D.str) = T at *
      generalize D.lst (evs l) = L at *
      simp [pr3, repD, fIsN, isNonD, eH]
    exact fnD_err hg rfl (out _ _)
  | some C =>
    rw [e] at h2
    have pg : ∀ c ∈ init :: C, ∀ x ∈ c, pageB x = true := fun c hc => by
      rcases List.mem_cons.mp hc with rfl | hc
      · exact h.shelf.2.2
      · unfold res at e
        obtain ⟨g, _, e2⟩ := Option.bind_eq_some_iff.mp e
        exact fo_pages room l init g C h.shelf.2.2 h.log.2 e2 c hc
    have lC : C.length ≤ 1000 := by
      unfold res at e
      obtain ⟨g, _, e2⟩ := Option.bind_eq_some_iff.mp e
      obtain ⟨_, _, a, _⟩ := fo_needs room l 0 init g C h.shelf.1 (by have := h.fits; omega) e2
      rw [a]; exact h.log.1
    have h3 : pr3 [some (.int (room : Nat)), some (.tup (init.map D.str)), some (.lst (evs l)), some d, some (.own (lstC (init :: C))), none] = .nx [some (.int (room : Nat)), some (.tup (init.map D.str)), some (.lst (evs l)), some d, some (.own (lstC (init :: C))), none] := by
      have pl := plain_lstC (init :: C)
      generalize D.tup (init.map D.str) = T at *
      generalize D.lst (evs l) = L at *
      generalize lstC (init :: C) = CC at *
      simp [pr3, fIsN, isNonD]
    have h4 : pr4 [some (.int (room : Nat)), some (.tup (init.map D.str)), some (.lst (evs l)), some d, some (.own (lstC (init :: C))), none] = .rt (.own (tpL (init :: C))) [some (.int (room : Nat)), some (.tup (init.map D.str)), some (.lst (evs l)), some d, some (.lst (lstC (init :: C))), none] := by
      have pl := plain_lstC (init :: C)
      have nb := plainL_noBor _ pl
      have fz := frzL_plain _ pl
      obtain ⟨e, q, w⟩ := lc_map (t := gN 5) (g := (dOp fTupOf (dCons (dOp fSortedA (dCons (dVar 5) dNil)) dNil))) (own := [5]) (W := [some (.int (room : Nat)), some (.tup (init.map D.str)), some (.lst (evs l)), some d, some (.lst (lstC (init :: C))), none]) (fun d => match d with
        | .lst c => .tup (srtD c)
        | d => d) (lstC (init :: C)) [some (.int (room : Nat)), some (.tup (init.map D.str)), some (.lst (evs l)), some d, some (.lst (lstC (init :: C))), none] rfl
        (by unfold lstC; rw [List.length_map, List.length_cons]; have := z_size; omega) (fun z hz => by
          unfold lstC at hz
          obtain ⟨c, hc, rfl⟩ := List.mem_map.mp hz
          have tc := tame (d := .lst (c.map D.str)) (by simpa using plain_strs c)
          have so : ∀ env, fSortedA env [.lst (c.map D.str)] = some (.own ((srtS c).map D.str)) := fun env => sorted_ok env _ c (pg c hc) rfl
          have ts : ∀ env, fTupOf env [.own ((srtS c).map D.str)] = some (.tup ((srtS c).map D.str)) := fun env => tup_step env (srtS c)
          have nt : noBor (.tup ((srtS c).map D.str)) = true := by simpa using noBor_strs (srtS c)
          have nt2 := noBor_strs (srtS c)
          generalize lstC (init :: C) = CC at *
          generalize D.tup (init.map D.str) = T at *
          generalize D.lst (evs l) = L at *
          simp only
          rw [srtD_strs]
          generalize (srtS c).map D.str = S at *
          generalize D.lst (c.map D.str) = X at *
          refine ⟨[some (.int (room : Nat)), some T, some L, some d, some (.lst CC), some X], by simp, [some (.int (room : Nat)), some T, some L, some d, some (.lst CC), some X], ?_, nt, by simp [wipeE], by simp [wipeE]⟩
          simp [tc, ↓so, ↓ts, nt2])
      have e2 : ((lstC (init :: C)).map fun d => frz ((fun d => match d with
        | .lst c => .tup (srtD c)
        | d => d) d)) = tpL (init :: C) := by
        unfold lstC tpL
        rw [List.map_map]
        refine List.map_congr_left fun c _ => ?_
        show frz (.tup (srtD (c.map D.str))) = tpC c
        rw [srtD_strs]
        exact frz_plain _ (plain_tpC c)
      rw [e2] at q
      have n2 := plainL_noBor _ (plain_tpL (init :: C))
      generalize lstC (init :: C) = CC at *
      generalize tpL (init :: C) = TT at *
      generalize D.tup (init.map D.str) = T at *
      generalize D.lst (evs l) = L at *
      have mb : ∀ e, mv (.bor 4) e = mbO (.bor 4) (frzAt e 4) := fun e => z_mvb e (.bor 4) rfl
      simp [pr4, ↓mb, frzAt, mbO, nb, fz, pl, q, w, n2]
    have hg : g_replay [some (.int (room : Nat)), some (.tup (init.map D.str)), some (.lst (evs l)), some d, none, none] = .rt (.own (tpL (init :: C))) [some (.int (room : Nat)), some (.tup (init.map D.str)), some (.lst (evs l)), some d, some (.lst (lstC (init :: C))), none] := by
      rw [ge_replay, z_seq, h1, z_qn, z_seq, h2, z_qn, z_seq]
      exact (congrArg (fun z => qO z _) h3).trans h4
    exact fnD_rt hg rfl (out _ _)
end Kx
namespace Kx
open PySem PySem.Spec L2 Dn
/-! what is told -/
abbrev tdB : Dn.Env → SOut := (dIfS (dTru (dVar 4)) (dSet 5 (dCallK f_replay [0, 1, 2, 3] (dCons (dVar 0) (dCons (dVar 1) (dCons (dVar 2) (dCons (dVar 3) dNil)))))) (dSet 5 (dCall f_replay (dCons (dVar 0) (dCons (dVar 1) (dCons (dVar 2) (dCons (dVar 3) dNil)))))))
abbrev hd1S : Dn.Env → SOut := (dSet 5 (dC .non))
abbrev hdsL : List ((Str → Option Bool) × (Dn.Env → SOut)) := ((mTab [("InvalidCapacity", false), ("InvalidHistory", true), ("InvalidLog", false), ("InvalidShelf", false)], hd1S) :: [])
theorem ge_told : g_l_told = dSeq (dSet 5 (dC .non)) (dSeq (dTry tdB hdsL) (dRet (dVar 5))) := rfl
theorem hH (a0 a1 a2 a3 a4 a5 : Option D) : dHandle eH [a0, a1, a2, a3, a4, a5] hdsL = .nx [a0, a1, a2, a3, a4, some .non] := by
  rw [z_hyes _ _ _ _ _ (show mTab _ eH.cls = some true by decide +kernel)]
  have : hd1S [a0, a1, a2, a3, a4, a5] = .nx [a0, a1, a2, a3, a4, some .non] := by simp [hd1S]
  rw [this]; rfl
theorem tdB_ok {A T L d r : D} (h0 : plain A = true) (h1 : plain T = true) (h2 : plain L = true) (h3 : plain d = true) (q : f_replay [A, T, L, d] = .ok r [some A, some T, some L, some d]) (nr : noBor r = true) (a5 : Option D) (b : Bool) : tdB [some A, some T, some L, some d, some (.bl b), a5] = .nx [some A, some T, some L, some d, some (.bl b), some r] := by
  have t0 := tame h0
  have t1 := tame h1
  have t2 := tame h2
  have t3 := tame h3
  have b0 := z_bare _ h0
  have b1 := z_bare _ h1
  have b2 := z_bare _ h2
  have b3 := z_bare _ h3
  have pk : pickL [0, 1, 2, 3] [A, T, L, d] = [A, T, L, d] := rfl
  cases b <;> simp [tdB, t0, t1, t2, t3, b0, b1, b2, b3, pk, q, nr]
theorem tdB_err {A T L d : D} {e : Exn} (h0 : plain A = true) (h1 : plain T = true) (h2 : plain L = true) (h3 : plain d = true) (q : f_replay [A, T, L, d] = .err e [some A, some T, some L, some d]) (a5 : Option D) (b : Bool) : tdB [some A, some T, some L, some d, some (.bl b), a5] = .err e [some A, some T, some L, some d, some (.bl b), a5] := by
  have t0 := tame h0
  have t1 := tame h1
  have t2 := tame h2
  have t3 := tame h3
  have b0 := z_bare _ h0
  have b1 := z_bare _ h1
  have b2 := z_bare _ h2
  have b3 := z_bare _ h3
  have pk : pickL [0, 1, 2, 3] [A, T, L, d] = [A, T, L, d] := rfl
  cases b <;> simp [tdB, t0, t1, t2, t3, b0, b1, b2, b3, pk, q]
def resD (init : List Str) : Option (List (List Str)) → D
  | none => .non
  | some C => .own (tpL (init :: C))
theorem told_ok {room : Nat} {init : List Str} {l : List (Bool × Str)} {d : D} (hr : room ≤ 1000) (h : Ask (room : Nat) init l) (hd : Thg d) (b : Bool) :
    f_l_told [.int (room : Nat), .tup (init.map D.str), .lst (evs l), d, .bl b] = .ok (resD init (res room init l d)) [some (.int (room : Nat)), some (.tup (init.map D.str)), some (.lst (evs l)), some d, some (.bl b)] := by
  have p1 : plain (.tup (init.map D.str)) = true := by simpa using plain_strs init
  have p2 : plain (.lst (evs l)) = true := by simpa using plain_evs l
  have rp := replay_ok hr h hd
  have s1 : ∀ A T L, (dSet 5 (dC .non)) [some A, some T, some L, some d, some (.bl b), none] = .nx [some A, some T, some L, some d, some (.bl b), some .non] := fun A T L => by simp
  have q : ∃ o, (dSeq (dTry tdB hdsL) (dRet (dVar 5))) [some (.int (room : Nat)), some (.tup (init.map D.str)), some (.lst (evs l)), some d, some (.bl b), some .non] = .rt (resD init (res room init l d)) [some (.int (room : Nat)), some (.tup (init.map D.str)), some (.lst (evs l)), some d, some (.bl b), o] := by
    cases e : res room init l d with
    | none =>
      rw [e] at rp
      refine ⟨some .non, ?_⟩
      rw [z_seq, try_err _ _ _ _ _ (tdB_err (by simp) p1 p2 hd.plain rp _ b), hH, z_qn]
      generalize D.tup (init.map D.str) = T at *
      generalize D.lst (evs l) = L at *
      simp [resD]
    | some C =>
      rw [e] at rp
      have nb := plainL_noBor _ (plain_tpL (init :: C))
      refine ⟨none, ?_⟩
      rw [z_seq, try_nx _ _ _ _ (tdB_ok (by simp) p1 p2 hd.plain rp (by simpa using nb) _ b), z_qn]
      show _ = SOut.rt (.own (tpL (init :: C))) _
      generalize D.tup (init.map D.str) = T at *
      generalize D.lst (evs l) = L at *
      generalize tpL (init :: C) = TT at *
      simp
  obtain ⟨o, q⟩ := q
  have hg : g_l_told [some (.int (room : Nat)), some (.tup (init.map D.str)), some (.lst (evs l)), some d, some (.bl b), none] = .rt (resD init (res room init l d)) [some (.int (room : Nat)), some (.tup (init.map D.str)), some (.lst (evs l)), some d, some (.bl b), o] := by
    rw [ge_told, z_seq, s1, z_qn, q]
  refine fnD_rt hg rfl ?_
  generalize D.tup (init.map D.str) = T at *
  generalize D.lst (evs l) = L at *
  simp [outsOf, List.range, List.range.loop]
end Kx
namespace Kx
open PySem PySem.Spec L2 Dn
/-! the law's own following of the events -/
abbrev fb1 : Dn.Env → SOut := (dIfS (dB (dOp fNe (dCons (dOp fEq (dCons (dVar 7) (dCons (dC (.str "hit")) dNil))) (dCons (dOp fIn (dCons (dVar 8) (dCons (dVar 4) dNil))) dNil)))) (dRet (dC .non)) dSkip)
abbrev fb2a : Dn.Env → SOut := (dIfS (dOr (dB (dOp fEq (dCons (dVar 5) (dCons (dOp fLen (dCons (dVar 3) dNil)) dNil)))) (dB (dOp fNotIn (dCons (dOp fIx (dCons (dVar 3) (dCons (dVar 5) dNil))) (dCons (dVar 4) dNil))))) (dRet (dC .non)) dSkip)
abbrev fb2b : Dn.Env → SOut := (dSet 4 (dLc (dItems (dVar 4)) (gN 9) (dB (dOp fNe (dCons (dVar 9) (dCons (dOp fIx (dCons (dVar 3) (dCons (dVar 5) dNil))) dNil)))) (dVar 9) [9]))
abbrev fb2c : Dn.Env → SOut := (dSet 5 (dOp fAdd (dCons (dVar 5) (dCons (dC (.int 1)) dNil))))
abbrev fb2 : Dn.Env → SOut := (dIfS (dAnd (dB (dOp fEq (dCons (dVar 7) (dCons (dC (.str "miss")) dNil)))) (dB (dOp fEq (dCons (dOp fLen (dCons (dVar 4) dNil)) (dCons (dVar 0) dNil))))) (dSeq fb2a (dSeq fb2b fb2c)) dSkip)
abbrev fb3 : Dn.Env → SOut := (dIfS (dB (dOp fEq (dCons (dVar 7) (dCons (dC (.str "miss")) dNil)))) (dSet 4 (dOp fSortedA (dCons (dOp fAdd (dCons (dVar 4) (dCons (dLst (dCons (dVar 8) dNil)) dNil))) dNil))) dSkip)
abbrev fb4 : Dn.Env → SOut := (dExpr (dMut 6 mAppend (dCons (dOp fTupOf (dCons (dVar 4) dNil)) dNil)))
abbrev fBody : Dn.Env → SOut := dSeq fb1 (dSeq fb2 (dSeq fb3 fb4))
abbrev fT : D → Dn.Env → Option Dn.Env := gT 2 (gsCons (gN 7) (gsCons (gN 8) gsNil))
def Ef (room : Nat) (T L : D) (g : List D) (H : List Str) (u : Nat) (F : List D) (m : Bool) (p : Str) : Dn.Env :=
  [some (.int (room : Nat)), some T, some L, some (.lst g), some (.own (H.map D.str)), some (.int (u : Nat)), some (.own F), some (.str (mkS m)), some (.str p), none]
def inH (H : List Str) : D → Bool
  | .str x => decide (x ∈ H)
  | _ => false
section
variable (room : Nat) (T L : D) (g : List D) (H : List Str) (u : Nat) (F : List D) (p : Str)
theorem fb1_ok (m : Bool) : fb1 (Ef room T L g H u F m p) = if ((!m) != decide (p ∈ H)) = true then .rt .non (Ef room T L g H u F m p) else .nx (Ef room T L g H u F m p) := by
  have mh := mkS_hit m
  have ti : ∀ env : Dn.Env, env[4]? = some (some (.own (H.map D.str))) → fIn env [.str p, .bor 4] = some (.bl (decide (p ∈ H))) := fun env he => by
    show (fInB env (.str p) (.bor 4)).map D.bl = _
    rw [in_bor env p H 4 he]; rfl
  have ne := ne_bb
  unfold Ef
  generalize decide (p ∈ H) = b at *
  have t : fIn [some (.int (room : Nat)), some T, some L, some (.lst g), some (.own (H.map D.str)), some (.int (u : Nat)), some (.own F), some (.str (mkS m)), some (.str p), none] [.str p, .bor 4] = some (.bl b) := ti _ rfl
  generalize H.map D.str = HH at *
  generalize mkS m = M at *
  cases b <;> cases m <;> simp [fb1, ↓t, ↓ne, mh]
theorem fb2_hit : fb2 (Ef room T L g H u F false p) = .nx (Ef room T L g H u F false p) := by
  have mh := mkS_miss false
  unfold Ef
  generalize H.map D.str = HH at *
  generalize mkS false = M at *
  generalize fb2a = A
  generalize fb2b = B
  generalize fb2c = C
  simp [fb2, mh]
theorem fb2_room (h : H.length ≠ room) (h2 : H.length ≤ 1000) : fb2 (Ef room T L g H u F true p) = .nx (Ef room T L g H u F true p) := by
  have mh := mkS_miss true
  have lh : (H.map D.str).length = H.length := List.length_map ..
  have e5 : ((H.length : Int) == (room : Int)) = false := beq_eq_false_iff_ne.mpr (by omega)
  unfold Ef
  generalize H.map D.str = HH at *
  generalize mkS true = M at *
  generalize fb2a = A
  generalize fb2b = B
  generalize fb2c = C
  have l2 : H.length ≤ 16777216 := by omega
  simp [fb2, mh, lh, e5, l2]
theorem fb2_full (h : H.length = room) (h2 : H.length ≤ 1000) : fb2 (Ef room T L g H u F true p) = dSeq fb2a (dSeq fb2b fb2c) (Ef room T L g H u F true p) := by
  have mh := mkS_miss true
  have lh : (H.map D.str).length = room := by rw [List.length_map, h]
  unfold Ef
  generalize H.map D.str = HH at *
  generalize mkS true = M at *
  generalize hQ : dSeq fb2a (dSeq fb2b fb2c) = Q
  have l2 : room ≤ 16777216 := by omega
  have e : fb2 = (dIfS (dAnd (dB (dOp fEq (dCons (dVar 7) (dCons (dC (.str "miss")) dNil)))) (dB (dOp fEq (dCons (dOp fLen (dCons (dVar 4) dNil)) (dCons (dVar 0) dNil))))) Q dSkip) := by rw [← hQ]
  rw [e]
  simp [mh, lh, l2]
theorem fb2a_end (hg : plainL g = true) (hl : g.length ≤ 1000) (h : u = g.length) : fb2a (Ef room T L g H u F true p) = .rt .non (Ef room T L g H u F true p) := by
  unfold Ef
  subst h
  generalize H.map D.str = HH at *
  generalize mkS true = M at *
  have l2 : g.length ≤ 16777216 := by omega
  simp [fb2a, hg, l2]
theorem fb2a_ok (hg : plainL g = true) (hl : g.length ≤ 1000) (d : D) (hd : g[u]? = some d) (hi : Itm d) (hH : ∀ x ∈ H, pageB x = true) (b : Bool) (hb : inH H d = b) :
    fb2a (Ef room T L g H u F true p) = if b = true then .nx (Ef room T L g H u F true p) else .rt .non (Ef room T L g H u F true p) := by
  have hu : u < g.length := (List.getElem?_eq_some_iff.mp hd).1
  have l2 : g.length ≤ 16777216 := by omega
  have e0 : ((u : Int) == (g.length : Int)) = false := beq_eq_false_iff_ne.mpr (by omega)
  have a := atI_n hd
  have td := tame hi.plain
  have t : fNotIn (Ef room T L g H u F true p) [d, .bor 4] = some (.bl (!b)) := by
    show (fInB _ d (.bor 4)).map (fun b => D.bl (!b)) = _
    rw [(in_itm _ d hi H hH 4 rfl).trans (show _ = some (inH H d) by cases d <;> rfl), hb]
    rfl
  unfold Ef at *
  generalize H.map D.str = HH at *
  generalize mkS true = M at *
  cases b <;> simp [fb2a, hg, l2, e0, a, td, ↓t]
theorem fb2b_ok (hg : plainL g = true) (o : Str) (hd : g[u]? = some (.str o)) (h2 : H.length ≤ 1000) : fb2b (Ef room T L g H u F true p) = .nx (Ef room T L g (H.filter fun x => !decide (x = o)) u F true p) := by
  have a := atI_n hd
  have pl := plain_strs H
  have nb := noBor_strs H
  have fz := frzL_plain _ pl
  have n2 := noBor_strs (H.filter fun x => !decide (x = o))
  obtain ⟨e, q, w⟩ := lc_fm (t := gN 9) (p := dB (dOp fNe (dCons (dVar 9) (dCons (dOp fIx (dCons (dVar 3) (dCons (dVar 5) dNil))) dNil)))) (g := dVar 9) (own := [9]) (W := [some (.int (room : Nat)), some T, some L, some (.lst g), some (.lst (H.map D.str)), some (.int (u : Nat)), some (.own F), some (.str (mkS true)), some (.str p), none]) (fun d => match d with
    | .str x => !decide (x = o)
    | _ => false) id (H.map D.str) [] [some (.int (room : Nat)), some T, some L, some (.lst g), some (.lst (H.map D.str)), some (.int (u : Nat)), some (.own F), some (.str (mkS true)), some (.str p), none] (by simp [wipeE]) (by rw [List.length_map]; have := z_size; simp; omega) (fun d hd => by
      obtain ⟨x, _, rfl⟩ := List.mem_map.mp hd
      have xo : (x == o) = decide (x = o) := by by_cases e : x = o <;> simp [e]
      generalize H.map D.str = HH at *
      generalize mkS true = M at *
      refine ⟨[some (.int (room : Nat)), some T, some L, some (.lst g), some (.lst HH), some (.int (u : Nat)), some (.own F), some (.str M), some (.str p), some (.str x)], by simp, ?_, by simp [wipeE], fun _ => ⟨[some (.int (room : Nat)), some T, some L, some (.lst g), some (.lst HH), some (.int (u : Nat)), some (.own F), some (.str M), some (.str p), some (.str x)], by simp, by simp, by simp [wipeE]⟩⟩
      simp [xo, a, hg])
  have fe : ∀ l : List Str, ((l.map D.str).filter fun d => match d with
      | .str x => !decide (x = o)
      | _ => false).map (fun d => frz (id d)) = (l.filter fun x => !decide (x = o)).map D.str := fun l => by
    induction l with
    | nil => rfl
    | cons x l ih =>
      rw [List.map_cons, List.filter_cons, List.filter_cons]
      simp only
      split
      · rw [List.map_cons, List.map_cons, ih]; rfl
      · exact ih
  rw [fe, List.nil_append] at q
  unfold Ef
  generalize (H.filter fun x => !decide (x = o)).map D.str = H2 at *
  generalize H.map D.str = HH at *
  generalize mkS true = M at *
  have mb : ∀ e, mv (.bor 4) e = mbO (.bor 4) (frzAt e 4) := fun e => z_mvb e (.bor 4) rfl
  simp [fb2b, ↓mb, frzAt, mbO, pl, nb, fz, q, w, n2]
theorem fb2c_ok (m : Bool) : fb2c (Ef room T L g H u F m p) = .nx (Ef room T L g H (u + 1) F m p) := by
  unfold Ef
  generalize H.map D.str = HH at *
  generalize mkS m = M at *
  simp [fb2c]
theorem fb3_hit : fb3 (Ef room T L g H u F false p) = .nx (Ef room T L g H u F false p) := by
  have mh := mkS_miss false
  unfold Ef
  generalize H.map D.str = HH at *
  generalize mkS false = M at *
  simp [fb3, mh]
theorem fb3_miss (hH : ∀ x ∈ H, pageB x = true) (hp : pageB p = true) (h2 : H.length ≤ 1000) : fb3 (Ef room T L g H u F true p) = .nx (Ef room T L g (srtS (H ++ [p])) u F true p) := by
  have mh := mkS_miss true
  have pl := plain_strs H
  have nb := noBor_strs H
  have n2 := noBor_strs (srtS (H ++ [p]))
  have ad : ∀ en : Dn.Env, en[4]? = some (some (.own (H.map D.str))) → fAdd en [.bor 4, .own [.str p]] = some (.own ((H ++ [p]).map D.str)) := fun en he => by
    have rm : rdM en (.bor 4) = some (H.map D.str) := by unfold rdM; rw [show rd en (.bor 4) = some (.own (H.map D.str)) by simp [he]]; rfl
    rw [z_addbo, rm]
    unfold adO
    simp only
    rw [if_pos ⟨pl, by simp, by rw [List.length_map]; have := z_size; simp; omega⟩, List.map_append]
    rfl
  have so : ∀ env, fSortedA env [.own ((H ++ [p]).map D.str)] = some (.own ((srtS (H ++ [p])).map D.str)) := fun env => sorted_ok env _ (H ++ [p]) (fun x hx => by
    rcases List.mem_append.mp hx with hx | hx
    · exact hH x hx
    · rw [List.mem_singleton.mp hx]; exact hp) rfl
  have n3 := noBor_strs (H ++ [p])
  unfold Ef
  have ad' : fAdd [some (.int (room : Nat)), some T, some L, some (.lst g), some (.own (H.map D.str)), some (.int (u : Nat)), some (.own F), some (.str (mkS true)), some (.str p), none] [.bor 4, .own [.str p]] = some (.own ((H ++ [p]).map D.str)) := ad _ rfl
  generalize (srtS (H ++ [p])).map D.str = S at *
  generalize (H ++ [p]).map D.str = H3 at *
  generalize H.map D.str = HH at *
  generalize mkS true = M at *
  simp [fb3, mh, ↓ad', ↓so, n2, n3]
theorem fb4_ok (m : Bool) (hF : F.length ≤ 10000) (nF : noBorL F = true) : fb4 (Ef room T L g H u F m p) = .nx (Ef room T L g H u (F ++ [.tup (H.map D.str)]) m p) := by
  have pl := plain_strs H
  have nb := noBor_strs H
  have l1 : F.length < 16777216 := by omega
  have n2 : noBorL (F ++ [.tup (H.map D.str)]) = true := noBor_app nF (by simpa using nb)
  unfold Ef
  generalize H.map D.str = HH at *
  generalize mkS m = M at *
  simp [fb4, pl, nb, l1, nF, n2]
end
end Kx
namespace Kx
open PySem PySem.Spec L2 Dn
def EfO (room : Nat) (T L : D) (g : List D) (H : List Str) (u : Nat) (F : List D) (s7 s8 : Option D) : Dn.Env :=
  [some (.int (room : Nat)), some T, some L, some (.lst g), some (.own (H.map D.str)), some (.int (u : Nat)), some (.own F), s7, s8, none]
theorem fT_ok (room : Nat) (T L : D) (g : List D) (H : List Str) (u : Nat) (F : List D) (s7 s8 : Option D) (m : Bool) (p : Str) : fT (ev m p) (EfO room T L g H u F s7 s8) = some (Ef room T L g H u F m p) := by
  unfold Ef EfO
  rw [ev_mk]
  generalize H.map D.str = HH at *
  generalize mkS m = M at *
  simp [fT]
theorem eb_f : fBody = dSeq fb1 (dSeq fb2 (dSeq fb3 fb4)) := rfl
theorem dSeq_nx {a b : Dn.Env → SOut} {e e1 : Dn.Env} {r : SOut} (h : a e = .nx e1) (h2 : b e1 = r) : dSeq a b e = r := by rw [z_seq, h, z_qn, h2]
theorem dSeq_rt {a b : Dn.Env → SOut} {e e1 : Dn.Env} {d : D} (h : a e = .rt d e1) : dSeq a b e = .rt d e1 := by rw [z_seq, h]; rfl
theorem srt_step (c : List Str) (o p : Str) : srtS ((srtS c).filter (fun x => !decide (x = o)) ++ [p]) = srtS (c.filter (fun x => !decide (x = o)) ++ [p]) := srtS_eq (((srtS_perm c).filter _).append_right _)
theorem srt_add (c : List Str) (p : Str) : srtS (srtS c ++ [p]) = srtS (c ++ [p]) := srtS_eq ((srtS_perm c).append_right _)
theorem drop_some {g : List D} {u : Nat} {d : D} (h : g[u]? = some d) : g.drop u = d :: g.drop (u + 1) := by
  obtain ⟨hu, e⟩ := List.getElem?_eq_some_iff.mp h
  rw [List.drop_eq_getElem_cons hu, e]
theorem fw_loop (room : Nat) (T L : D) (g : List D) (hg : ∀ d ∈ g, Itm d) (hgl : g.length ≤ 1000) (hr : room ≤ 1000) : ∀ (l : List (Bool × Str)) (c : List Str) (u : Nat) (F : List D) (s7 s8 : Option D), c.Nodup → c.length ≤ room → (∀ x ∈ c, pageB x = true) → (∀ q ∈ l, pageB q.2 = true) → u ≤ g.length → F.length + l.length ≤ 9000 → noBorL F = true →
    (∀ C', fo room c l (g.drop u) = some C' → ∃ H z7 z8, forL fT fBody (evs l) (EfO room T L g (srtS c) u F s7 s8) = .nx (EfO room T L g H g.length (F ++ tpL C') z7 z8)) ∧
    (fo room c l (g.drop u) = none → (∃ H u' F' z7 z8, forL fT fBody (evs l) (EfO room T L g (srtS c) u F s7 s8) = .rt .non (EfO room T L g H u' F' z7 z8)) ∨
      ∃ H u' F' z7 z8, u' < g.length ∧ noBorL F' = true ∧ forL fT fBody (evs l) (EfO room T L g (srtS c) u F s7 s8) = .nx (EfO room T L g H u' F' z7 z8))
  | [], c, u, F, s7, s8, nd, hc, hcp, hl, hu, hF, nF => by
    constructor
    · intro C' h
      unfold fo at h
      split at h
      · rename_i e
        cases h
        have : g.length ≤ u := by simpa using e
        refine ⟨srtS c, s7, s8, ?_⟩
        rw [show g.length = u by omega]
        simp [evs, forL, tpL]
      · cases h
    · intro h
      unfold fo at h
      split at h
      · cases h
      · rename_i e
        have : u < g.length := by simpa using e
        exact .inr ⟨srtS c, u, F, s7, s8, this, nF, by simp [evs, forL]⟩
  | (m, p) :: l, c, u, F, s7, s8, nd, hc, hcp, hl, hu, hF, nF => by
    rw [List.length_cons] at hF
    have hp : pageB p = true := hl (m, p) List.mem_cons_self
    have hl2 : ∀ q ∈ l, pageB q.2 = true := fun q hq => hl q (List.mem_cons_of_mem _ hq)
    have ee : evs ((m, p) :: l) = ev m p :: evs l := rfl
    have tg := fT_ok room T L g (srtS c) u F s7 s8 m p
    have hsl : (srtS c).length = c.length := srtS_len c
    have hsp : ∀ x ∈ srtS c, pageB x = true := fun x hx => hcp x (srtS_mem.mp hx)
    have hgp : plainL g = true := plain_itms g hg
    have b1 := fb1_ok room T L g (srtS c) u F p m
    have dm : decide (p ∈ srtS c) = decide (p ∈ c) := by simp [srtS_mem]
    rw [dm] at b1
    -- an event that cannot be
    have bad : ∀ {X : Dn.Env}, fBody (Ef room T L g (srtS c) u F m p) = .rt .non X → X = Ef room T L g (srtS c) u F m p → fo room c ((m, p) :: l) (g.drop u) = none →
        (∀ C', fo room c ((m, p) :: l) (g.drop u) = some C' → ∃ H z7 z8, forL fT fBody (evs ((m, p) :: l)) (EfO room T L g (srtS c) u F s7 s8) = .nx (EfO room T L g H g.length (F ++ tpL C') z7 z8)) ∧
        (fo room c ((m, p) :: l) (g.drop u) = none → (∃ H u' F' z7 z8, forL fT fBody (evs ((m, p) :: l)) (EfO room T L g (srtS c) u F s7 s8) = .rt .non (EfO room T L g H u' F' z7 z8)) ∨
          ∃ H u' F' z7 z8, u' < g.length ∧ noBorL F' = true ∧ forL fT fBody (evs ((m, p) :: l)) (EfO room T L g (srtS c) u F s7 s8) = .nx (EfO room T L g H u' F' z7 z8)) := fun h1 h2 h3 => by
      refine ⟨(fun C' h => by rw [h3] at h; cases h), fun _ => .inl ⟨srtS c, u, F, some (.str (mkS m)), some (.str p), ?_⟩⟩
      rw [ee]
      unfold forL
      rw [tg]
      simp only [h1, h2]
      rfl
    -- an event that can
    have good : ∀ (c' : List Str) (u' : Nat), fBody (Ef room T L g (srtS c) u F m p) = .nx (Ef room T L g (srtS c') u' (F ++ [tpC c']) m p) → fo room c ((m, p) :: l) (g.drop u) = (fo room c' l (g.drop u')).map (c' :: ·) → c'.Nodup → c'.length ≤ room → (∀ x ∈ c', pageB x = true) → u' ≤ g.length →
        (∀ C', fo room c ((m, p) :: l) (g.drop u) = some C' → ∃ H z7 z8, forL fT fBody (evs ((m, p) :: l)) (EfO room T L g (srtS c) u F s7 s8) = .nx (EfO room T L g H g.length (F ++ tpL C') z7 z8)) ∧
        (fo room c ((m, p) :: l) (g.drop u) = none → (∃ H u' F' z7 z8, forL fT fBody (evs ((m, p) :: l)) (EfO room T L g (srtS c) u F s7 s8) = .rt .non (EfO room T L g H u' F' z7 z8)) ∨
          ∃ H u' F' z7 z8, u' < g.length ∧ noBorL F' = true ∧ forL fT fBody (evs ((m, p) :: l)) (EfO room T L g (srtS c) u F s7 s8) = .nx (EfO room T L g H u' F' z7 z8)) := fun c' u' h1 h3 k1 k2 k3 k4 => by
      have nF2 : noBorL (F ++ [tpC c']) = true := noBor_app nF (by simpa using plain_noBor _ (plain_tpC c'))
      obtain ⟨i1, i2⟩ := fw_loop room T L g hg hgl hr l c' u' (F ++ [tpC c']) (some (.str (mkS m))) (some (.str p)) k1 k2 k3 hl2 k4 (by rw [List.length_append, List.length_singleton]; omega) nF2
      constructor
      · intro C' h
        rw [h3] at h
        obtain ⟨C2, h2, rfl⟩ := Option.map_eq_some_iff.mp h
        obtain ⟨H, z7, z8, i⟩ := i1 C2 h2
        refine ⟨H, z7, z8, ?_⟩
        rw [ee]
        refine forL_step tg h1 (i.trans ?_)
        rw [List.append_assoc]
        rfl
      · intro h
        rw [h3] at h
        have h2 : fo room c' l (g.drop u') = none := by
          cases e : fo room c' l (g.drop u') with
          | none => rfl
          | some x => rw [e] at h; cases h
        rcases i2 h2 with ⟨H, u2, F', z7, z8, i⟩ | ⟨H, u2, F', z7, z8, i0, i3, i⟩
        · refine .inl ⟨H, u2, F', z7, z8, ?_⟩
          rw [ee]
          exact forL_step tg h1 i
        · refine .inr ⟨H, u2, F', z7, z8, i0, i3, ?_⟩
          rw [ee]
          exact forL_step tg h1 i
    have f4 : ∀ H u m, fb4 (Ef room T L g H u F m p) = .nx (Ef room T L g H u (F ++ [.tup (H.map D.str)]) m p) := fun H u m => fb4_ok room T L g H u F p m (by omega) nF
    rw [eb_f] at bad good
    cases m with
    | false =>
      by_cases hpc : p ∈ c
      · rw [decide_eq_true hpc] at b1
        refine good c u ?_ (by rw [fo, if_pos hpc]) nd hc hcp hu
        exact dSeq_nx b1 (dSeq_nx (fb2_hit ..) (dSeq_nx (fb3_hit ..) (f4 (srtS c) u false)))
      · rw [decide_eq_false hpc] at b1
        exact bad (dSeq_rt b1) rfl (by rw [fo, if_neg hpc])
    | true =>
      by_cases hpc : p ∈ c
      · rw [decide_eq_true hpc] at b1
        exact bad (dSeq_rt b1) rfl (by rw [fo, if_pos hpc])
      · rw [decide_eq_false hpc] at b1
        have b1' : fb1 (Ef room T L g (srtS c) u F true p) = .nx (Ef room T L g (srtS c) u F true p) := b1
        by_cases hf : c.length = room
        · have b2 := fb2_full room T L g (srtS c) u F p (by omega) (by omega)
          cases hd : g[u]? with
          | none =>
            have hu2 : u = g.length := by have := List.getElem?_eq_none_iff.mp hd; omega
            refine bad (dSeq_nx b1' (dSeq_rt (b2.trans (dSeq_rt (fb2a_end room T L g (srtS c) u F p hgp hgl hu2))))) rfl ?_
            rw [fo, if_neg hpc, if_pos hf, hu2, List.drop_length]
            rfl
          | some d =>
            have hi : Itm d := hg d (List.mem_of_getElem? hd)
            have hul : u < g.length := (List.getElem?_eq_some_iff.mp hd).1
            have ba := fb2a_ok room T L g (srtS c) u F p hgp hgl d hd hi hsp (inH (srtS c) d) rfl
            have dr := drop_some hd
            by_cases hin : inH (srtS c) d = true
            · rw [if_pos hin] at ba
              obtain ⟨o, rfl, ho⟩ : ∃ o, d = .str o ∧ o ∈ c := by
                cases d with
                | str o => exact ⟨o, rfl, srtS_mem.mp (of_decide_eq_true hin)⟩
                | _ => cases hin
              have fl := filter_len nd ho
              have pg : ∀ x ∈ (srtS c).filter (fun x => !decide (x = o)), pageB x = true := fun x hx => hsp x (List.mem_filter.mp hx).1
              have bb := fb2b_ok room T L g (srtS c) u F p hgp o hd (by omega)
              have bc := fb2c_ok room T L g ((srtS c).filter fun x => !decide (x = o)) u F p true
              have b3 := fb3_miss room T L g ((srtS c).filter fun x => !decide (x = o)) (u + 1) F p pg hp (Nat.le_trans (List.length_filter_le _ _) (by omega))
              rw [srt_step] at b3
              have step := dSeq_nx (b := dSeq fb2 (dSeq fb3 fb4)) b1' (dSeq_nx (b := dSeq fb3 fb4) (b2.trans (dSeq_nx ba (dSeq_nx bb bc))) (dSeq_nx b3 (f4 _ (u + 1) true)))
              refine good (c.filter (fun x => !decide (x = o)) ++ [p]) (u + 1) step ?_ (nodup_in nd List.filter_sublist hpc) (by rw [List.length_append, List.length_singleton]; omega) ?_ (by omega)
              · rw [fo, if_neg hpc, if_pos hf, dr, hd1, Option.bind_some]
                simp only
                rw [if_pos ho]
              · intro x hx
                rcases List.mem_append.mp hx with hx | hx
                · exact hcp x (List.mem_filter.mp hx).1
                · rw [List.mem_singleton.mp hx]; exact hp
            · rw [if_neg hin] at ba
              refine bad (dSeq_nx b1' (dSeq_rt (b2.trans (dSeq_rt ba)))) rfl ?_
              rw [fo, if_neg hpc, if_pos hf, dr]
              cases d with
              | str o =>
                have : o ∉ c := fun z => hin (decide_eq_true (srtS_mem.mpr z))
                rw [hd1, Option.bind_some]
                simp only
                rw [if_neg this]
              | _ => rfl
        · have b2 := fb2_room room T L g (srtS c) u F p (by omega) (by omega)
          have b3 := fb3_miss room T L g (srtS c) u F p hsp hp (by omega)
          rw [srt_add] at b3
          refine good (c ++ [p]) u (dSeq_nx b1' (dSeq_nx b2 (dSeq_nx b3 (f4 _ u true)))) (by rw [fo, if_neg hpc, if_neg hf]) (nodup_in nd (List.Sublist.refl _) hpc) (by rw [List.length_append, List.length_singleton]; omega) ?_ hu
          intro x hx
          rcases List.mem_append.mp hx with hx | hx
          · exact hcp x hx
          · rw [List.mem_singleton.mp hx]; exact hp
end Kx
namespace Kx
open PySem PySem.Spec L2 Dn
abbrev fo1 : Dn.Env → SOut := (dIfS (dNot (dTru (dOn (fIsi "list") (dVar 3)))) (dRet (dC .non)) dSkip)
abbrev fo2 : Dn.Env → SOut := (dAsg (dTup (dCons (dOp fSortedA (dCons (dVar 1) dNil)) (dCons (dC (.int 0)) (dCons (dLst (dCons (dOp fTupOf (dCons (dOp fSortedA (dCons (dVar 1) dNil)) dNil)) dNil)) dNil)))) (gT 3 (gsCons (gN 4) (gsCons (gN 5) (gsCons (gN 6) gsNil)))))
abbrev fo3 : Dn.Env → SOut := (dFor (dItems (dVar 2)) fT fBody)
abbrev fo4 : Dn.Env → SOut := (dRet (dIf (dB (dOp fEq (dCons (dVar 5) (dCons (dOp fLen (dCons (dVar 3) dNil)) dNil)))) (dVar 6) (dC .non)))
theorem ge_followed : g_l_followed = dSeq fo1 (dSeq fo2 (dSeq fo3 fo4)) := rfl
theorem followed_ok {room : Nat} {init : List Str} {l : List (Bool × Str)} {d : D} (hr : room ≤ 1000) (h : Ask (room : Nat) init l) (hd : Thg d) :
    f_l_followed [.int (room : Nat), .tup (init.map D.str), .lst (evs l), d] = .ok (resD init (res room init l d)) [some (.int (room : Nat)), some (.tup (init.map D.str)), some (.lst (evs l)), some d] := by
  have t1 := tame (d := .tup (init.map D.str)) (by simpa using plain_strs init)
  have t2 := tame (d := .lst (evs l)) (by simpa using plain_evs l)
  have t3 := tame hd.plain
  have out : ∀ z4 z5 z6 z7 z8 z9, outsOf 4 (fun i => [0, 1, 2, 3].contains i) [some (.int (room : Nat)), some (.tup (init.map D.str)), some (.lst (evs l)), some d, z4, z5, z6, z7, z8, z9] = [some (.int (room : Nat)), some (.tup (init.map D.str)), some (.lst (evs l)), some d] := fun z4 z5 z6 z7 z8 z9 => by
    generalize D.tup (init.map D.str) = T at *
    generalize D.lst (evs l) = L at *
    simp [outsOf, List.range, List.range.loop]
  have go : ∀ r z4 z5 z6 z7 z8 z9, g_l_followed [some (.int (room : Nat)), some (.tup (init.map D.str)), some (.lst (evs l)), some d, none, none, none, none, none, none] = .rt r [some (.int (room : Nat)), some (.tup (init.map D.str)), some (.lst (evs l)), some d, z4, z5, z6, z7, z8, z9] →
      f_l_followed [.int (room : Nat), .tup (init.map D.str), .lst (evs l), d] = .ok r [some (.int (room : Nat)), some (.tup (init.map D.str)), some (.lst (evs l)), some d] := fun r z4 z5 z6 z7 z8 z9 hg => fnD_rt hg rfl (out ..)
  rcases hd with ⟨hn, h0⟩ | ⟨g, rfl, hgl, hg⟩
  · have e : resD init (res room init l d) = .non := by unfold res; rw [h0]; rfl
    rw [e]
    refine go _ none none none none none none ?_
    rw [ge_followed]
    refine dSeq_rt ?_
    have t := tame hn.pl
    have r := hn.rd
    obtain ⟨ty, h1, h2⟩ := hn.ty
    generalize D.tup (init.map D.str) = T at *
    generalize D.lst (evs l) = L at *
    simp [fo1, t, r, h1, h2]
  · have er : res room init l (.lst g) = fo room init l g := rfl
    rw [er]
    have hgp := plain_itms g hg
    have l2 : g.length ≤ 16777216 := by omega
    have h1 : fo1 [some (.int (room : Nat)), some (.tup (init.map D.str)), some (.lst (evs l)), some (.lst g), none, none, none, none, none, none] = .nx [some (.int (room : Nat)), some (.tup (init.map D.str)), some (.lst (evs l)), some (.lst g), none, none, none, none, none, none] := by
      generalize D.tup (init.map D.str) = T at *
      generalize D.lst (evs l) = L at *
      simp [fo1, isiB, hgp]
    have h2 : fo2 [some (.int (room : Nat)), some (.tup (init.map D.str)), some (.lst (evs l)), some (.lst g), none, none, none, none, none, none] = .nx (EfO room (.tup (init.map D.str)) (.lst (evs l)) g (srtS init) 0 [tpC init] none none) := by
      have so : ∀ env, fSortedA env [.tup (init.map D.str)] = some (.own ((srtS init).map D.str)) := fun env => sorted_ok env _ init h.shelf.2.2 rfl
      have ts : ∀ env, fTupOf env [.own ((srtS init).map D.str)] = some (.tup ((srtS init).map D.str)) := fun env => tup_step env (srtS init)
      have n1 := noBor_strs (srtS init)
      have p1 := plain_strs (srtS init)
      unfold EfO tpC
      generalize (srtS init).map D.str = S at *
      generalize D.tup (init.map D.str) = T at *
      generalize D.lst (evs l) = L at *
      simp [fo2, t1, ↓so, ↓ts, n1, p1]
    have h3 : ∀ r, forL fT fBody (evs l) (EfO room (.tup (init.map D.str)) (.lst (evs l)) g (srtS init) 0 [tpC init] none none) = r → fo3 (EfO room (.tup (init.map D.str)) (.lst (evs l)) g (srtS init) 0 [tpC init] none none) = r := fun r hr => by
      have pe := plain_evs l
      have fz := frzL_plain _ pe
      have nb := plainL_noBor _ pe
      have it : dItems (dVar 2) (EfO room (.tup (init.map D.str)) (.lst (evs l)) g (srtS init) 0 [tpC init] none none) = .ok (evs l) (EfO room (.tup (init.map D.str)) (.lst (evs l)) g (srtS init) 0 [tpC init] none none) := by
        unfold EfO
        generalize D.tup (init.map D.str) = T at *
        generalize (srtS init).map D.str = S at *
        generalize tpC init = Z at *
        generalize evs l = ES at *
        simp [pe, fz, nb]
      generalize EfO room (.tup (init.map D.str)) (.lst (evs l)) g (srtS init) 0 [tpC init] none none = EE at *
      generalize evs l = ES at *
      show dFor (dItems (dVar 2)) fT fBody EE = r
      rw [z_for, it, z_fo, if_pos pe, hr]
    obtain ⟨l1, l2'⟩ := fw_loop room (.tup (init.map D.str)) (.lst (evs l)) g hg hgl hr l init 0 [tpC init] none none h.shelf.1 (by have := h.fits; omega) h.shelf.2.2 h.log.2 (Nat.zero_le _) (by have := h.log.1; simp; omega) (by simpa using plain_noBor _ (plain_tpC init))
    rw [List.drop_zero] at l1 l2'
    cases hf : fo room init l g with
    | some C =>
      obtain ⟨H, z7, z8, i⟩ := l1 C hf
      refine go _ (some (.own (H.map D.str))) (some (.int (g.length : Nat))) none z7 z8 none ?_
      rw [ge_followed]
      refine dSeq_nx h1 (dSeq_nx h2 (dSeq_nx (h3 _ i) ?_))
      have n2 := plainL_noBor _ (plain_tpL (init :: C))
      show fo4 [_, _, _, _, _, _, some (.own (tpL (init :: C))), _, _, _] = .rt (.own (tpL (init :: C))) _
      generalize D.tup (init.map D.str) = T at *
      generalize H.map D.str = S at *
      generalize tpL (init :: C) = Z at *
      generalize evs l = ES at *
      simp [fo4, hgp, l2, n2]
    | none =>
      rcases l2' hf with ⟨H, u, F, z7, z8, i⟩ | ⟨H, u, F, z7, z8, hu, nF, i⟩
      · refine go _ (some (.own (H.map D.str))) (some (.int (u : Nat))) (some (.own F)) z7 z8 none ?_
        rw [ge_followed]
        exact dSeq_nx h1 (dSeq_nx h2 (dSeq_rt (h3 _ i)))
      · refine go _ (some (.own (H.map D.str))) (some (.int (u : Nat))) (some (.own F)) z7 z8 none ?_
        rw [ge_followed]
        refine dSeq_nx h1 (dSeq_nx h2 (dSeq_nx (h3 _ i) ?_))
        have e0 : ((u : Int) == (g.length : Int)) = false := beq_eq_false_iff_ne.mpr (by omega)
        unfold EfO
        generalize D.tup (init.map D.str) = T at *
        generalize H.map D.str = S at *
        generalize evs l = ES at *
        simp [fo4, hgp, l2, nF, e0, resD]
end Kx
namespace Kx
open PySem PySem.Spec L2 Dn
/-! data that may be judged and shown -/
mutual
def decB : D → Bool
  | .non => true
  | .bl _ => true
  | .int i => i == 0 || i == 1
  | .str x => PyData.strOk x && decide (x.length ≤ 4000)
  | .tup xs => decLB xs
  | .lst xs => decLB xs
  | .dic ks vs => ks.all (fun k => match k with
    | .inr x => PyData.strOk x
    | .inl _ => false) && decLB vs
  | .own _ => false
  | .odic _ _ => false
  | .scr _ => false
  | .bor _ => false
  | .exc _ _ _ => false
def decLB : List D → Bool
  | [] => true
  | d :: ds => decB d && decLB ds
end
theorem strOk_short {x : Str} (h : PyData.strOk x = true) : (PyData.str x).leavesShort 13 = true := by
  unfold PyData.strOk at h
  rw [Array.all_eq_true'] at h
  simp only [PyData.leavesShort, List.all_eq_true, decide_eq_true_eq]
  intro c hc
  have := of_decide_eq_true (h c (by simpa using hc))
  have e : (0x110000 : Nat) < 16 ^ 8 := by decide
  omega
theorem pyK_ok : ∀ (ks : List Key) (ds : List D), (ks.all (fun k => match k with
    | .inr x => PyData.strOk x
    | .inl _ => false)) = true → PyData.showableAll (pyL ds) = true → PyData.leavesShortAll 13 (pyL ds) = true → PyData.showableKv (pyK ks ds) = true ∧ PyData.leavesShortKv 13 (pyK ks ds) = true
  | [], [], _, _, _ => ⟨rfl, rfl⟩
  | [], _ :: _, _, _, _ => ⟨rfl, rfl⟩
  | _ :: _, [], _, _, _ => ⟨rfl, rfl⟩
  | k :: ks, d :: ds, h, h1, h2 => by
    rw [List.all_cons, Bool.and_eq_true] at h
    rw [pyL, PyData.showableAll, Bool.and_eq_true] at h1
    rw [pyL, PyData.leavesShortAll, Bool.and_eq_true] at h2
    obtain ⟨g1, g2⟩ := pyK_ok ks ds h.2 h1.2 h2.2
    cases k with
    | inl i => cases h.1
    | inr x =>
      have hx : PyData.strOk x = true := h.1
      rw [pyK, PyData.showableKv, PyData.leavesShortKv, g1, g2, h1.1, h2.1, strOk_short hx]
      exact ⟨rfl, rfl⟩
mutual
theorem dec_ok : ∀ d, decB d = true → okR d = true ∧ plain d = true ∧ (py d).showable = true ∧ (py d).leavesShort 13 = true
  | .non, _ => ⟨rfl, rfl, rfl, rfl⟩
  | .bl _, _ => ⟨rfl, rfl, rfl, rfl⟩
  | .int i, h => by
    have : i = 0 ∨ i = 1 := by simpa [decB] using h
    rcases this with rfl | rfl
    · exact ⟨rfl, rfl, by decide, by decide +kernel⟩
    · exact ⟨rfl, rfl, by decide, by decide +kernel⟩
  | .str x, h => ⟨rfl, rfl, rfl, strOk_short (by rw [decB, Bool.and_eq_true] at h; exact h.1)⟩
  | .tup xs, h => by
    obtain ⟨a, b, c, d⟩ := decL_ok xs (by simpa [decB] using h)
    exact ⟨by simpa [okR] using a, by simpa using b, by simpa [py, PyData.showable] using c, by simpa [py, PyData.leavesShort] using d⟩
  | .lst xs, h => by
    obtain ⟨a, b, c, d⟩ := decL_ok xs (by simpa [decB] using h)
    exact ⟨by simpa [okR] using a, by simpa using b, by simpa [py, PyData.showable] using c, by simpa [py, PyData.leavesShort] using d⟩
  | .dic ks vs, h => by
    rw [decB, Bool.and_eq_true] at h
    obtain ⟨a, b, c, d⟩ := decL_ok vs h.2
    obtain ⟨e, f⟩ := pyK_ok ks vs h.1 c d
    exact ⟨by simpa [okR] using a, by simpa using b, by simpa [py, PyData.showable] using e, by simpa [py, PyData.leavesShort] using f⟩
  | .own _, h => by simp [decB] at h
  | .odic _ _, h => by simp [decB] at h
  | .scr _, h => by simp [decB] at h
  | .bor _, h => by simp [decB] at h
  | .exc _ _ _, h => by simp [decB] at h
theorem decL_ok : ∀ ds, decLB ds = true → okRL ds = true ∧ plainL ds = true ∧ PyData.showableAll (pyL ds) = true ∧ PyData.leavesShortAll 13 (pyL ds) = true
  | [], _ => ⟨rfl, rfl, rfl, rfl⟩
  | d :: ds, h => by
    rw [decLB, Bool.and_eq_true] at h
    obtain ⟨a, b, c, e⟩ := dec_ok d h.1
    obtain ⟨a', b', c', e'⟩ := decL_ok ds h.2
    exact ⟨by simp [okRL, a, a'], by simp [b, b'], by simp [pyL, PyData.showableAll, c, c'], by simp [pyL, PyData.leavesShortAll, e, e']⟩
end
structure Dec (w k : Nat) (d : D) : Prop where
  b : decB d = true
  wt : (py d).weight ≤ w
  dp : (py d).depth ≤ k
theorem Dec.mono {w k w' k' : Nat} {d : D} (h : Dec w k d) (hw : w ≤ w') (hk : k ≤ k') : Dec w' k' d := ⟨h.b, Nat.le_trans h.wt hw, Nat.le_trans h.dp hk⟩
theorem Dec.tame {w k : Nat} {d : D} (h : Dec w k d) : plain d = true ∧ frz d = d ∧ noBor d = true ∧ (∀ e, sub e d = d) ∧ bors d = [] := Dn.tame (dec_ok d h.b).2.1
theorem Dec.repr {d : D} (h : Dec 1000000 50 d) : reprX d = true := by
  obtain ⟨a, _, c, e⟩ := dec_ok d h.b
  unfold reprX
  have := PyData.shown_fits (B := 13) (by decide) (by decide) e (Nat.le_trans h.wt (by decide))
  have dp := h.dp
  rw [a, c, decide_eq_true (show (py d).depth < 60 by omega), decide_eq_true this]
  rfl
theorem decL_all : ∀ ds : List D, decLB ds = true ↔ ∀ d ∈ ds, decB d = true
  | [] => by simp [decLB]
  | d :: ds => by rw [decLB, Bool.and_eq_true, decL_all ds]; simp
theorem wt_all {w : Nat} : ∀ ds : List D, (∀ d ∈ ds, (py d).weight ≤ w) → PyData.weightAll (pyL ds) ≤ ds.length * (w + 1)
  | [], _ => by rw [pyL, PyData.weightAll]; exact Nat.zero_le _
  | d :: ds, h => by
    have h1 := wt_all ds fun z hz => h z (List.mem_cons_of_mem _ hz)
    have h2 := h d List.mem_cons_self
    rw [pyL, PyData.weightAll, List.length_cons, Nat.add_mul]
    omega
theorem dp_all {k : Nat} : ∀ ds : List D, (∀ d ∈ ds, (py d).depth ≤ k) → PyData.depthAll (pyL ds) ≤ k
  | [], _ => Nat.zero_le _
  | d :: ds, h => by
    have h1 := dp_all ds fun z hz => h z (List.mem_cons_of_mem _ hz)
    have h2 := h d List.mem_cons_self
    rw [pyL, PyData.depthAll]
    omega
theorem dec_lst {w k : Nat} {ds : List D} (h : ∀ d ∈ ds, Dec w k d) : Dec (ds.length * (w + 1)) (k + 1) (.lst ds) :=
  ⟨by rw [decB, decL_all]; exact fun d hd => (h d hd).b, by rw [py, PyData.weight]; exact wt_all ds fun d hd => (h d hd).wt, by rw [py, PyData.depth]; have := dp_all ds fun d hd => (h d hd).dp; omega⟩
theorem dec_tup {w k : Nat} {ds : List D} (h : ∀ d ∈ ds, Dec w k d) : Dec (ds.length * (w + 1)) (k + 1) (.tup ds) :=
  ⟨by rw [decB, decL_all]; exact fun d hd => (h d hd).b, by rw [py, PyData.weight]; exact wt_all ds fun d hd => (h d hd).wt, by rw [py, PyData.depth]; have := dp_all ds fun d hd => (h d hd).dp; omega⟩
theorem decB_str {x : Str} (h : pageB x = true) : decB (.str x) = true := by
  rw [decB, page_sign h]
  have := page_len h
  simp
  omega
theorem dec_str {x : Str} (h : pageB x = true) : Dec 4 0 (.str x) := ⟨decB_str h, by show x.cps.size ≤ 4; exact page_len h, Nat.le_refl _⟩
theorem dec_itm {d : D} (h : Itm d) : Dec 5 1 d := by
  rcases h with ⟨x, rfl, hx⟩ | rfl | ⟨x, rfl, hx⟩
  · exact (dec_str hx).mono (by decide) (by decide)
  · exact ⟨rfl, by decide, by decide⟩
  · exact dec_lst (ds := [.str x]) fun d hd => by rw [List.mem_singleton.mp hd]; exact dec_str hx
theorem dec_strs {xs : List Str} (h : ∀ x ∈ xs, pageB x = true) : ∀ d ∈ xs.map D.str, Dec 4 0 d := fun d hd => by
  obtain ⟨x, hx, rfl⟩ := List.mem_map.mp hd
  exact dec_str (h x hx)
theorem dec_ev {m : Bool} {p : Str} (h : pageB p = true) : Dec 10 1 (ev m p) := by
  rw [ev_mk]
  refine (dec_tup (ds := [.str (mkS m), .str p]) (w := 4) (k := 0) fun d hd => ?_).mono (show 2 * (4 + 1) ≤ 10 by decide) (by decide)
  rcases List.mem_cons.mp hd with rfl | hd
  · cases m
    · exact dec_str (x := "hit") (by decide +kernel)
    · exact dec_str (x := "miss") (by decide +kernel)
  · rw [List.mem_singleton.mp hd]; exact dec_str h
theorem dec_evs {l : List (Bool × Str)} (h : ∀ q ∈ l, pageB q.2 = true) : ∀ d ∈ evs l, Dec 10 1 d := fun d hd => by
  obtain ⟨q, hq, rfl⟩ := List.mem_map.mp hd
  exact dec_ev (h q hq)
theorem dec_tpL {C : List (List Str)} {n : Nat} (h : ∀ c ∈ C, c.length ≤ n ∧ ∀ x ∈ c, pageB x = true) : Dec (C.length * (n * 5 + 1)) 2 (.lst (tpL C)) := by
  have e := dec_lst (ds := tpL C) (w := n * 5) (k := 1) fun d hd => by
    obtain ⟨c, hc, rfl⟩ := List.mem_map.mp hd
    obtain ⟨h1, h2⟩ := h c hc
    have := dec_tup (ds := (srtS c).map D.str) (w := 4) (k := 0) (dec_strs fun x hx => h2 x (srtS_mem.mp hx))
    rw [List.length_map, srtS_len] at this
    exact this.mono (Nat.mul_le_mul_right _ h1) (by decide)
  rw [show (tpL C).length = C.length from List.length_map ..] at e
  exact e
theorem z_rx (env : Dn.Env) (d : D) : fReprX env [d] = if reprX (sub ((bors d).foldl frzAt env) d) = true then some (.str (py (sub ((bors d).foldl frzAt env) d)).shown) else none := rfl
theorem rep_plain {d : D} (h : plain d = true) (r : reprX d = true) (env : Dn.Env) : fReprX env [d] = some (.str (py d).shown) := by
  have t := tame h
  rw [z_rx, t.2.2.2.1, r, if_pos rfl]
/-- a new list of plain things -/
theorem rep_own {xs : List D} (h : plainL xs = true) (r : reprX (.lst xs) = true) (env : Dn.Env) : fReprX env [.own xs] = some (.str (py (.lst xs)).shown) := by
  have nb := plainL_noBor _ h
  have s : ∀ e, sub e (.own xs) = .own xs := fun e => sub_id _ (by simpa using nb)
  have r2 : reprX (.own xs) = true := r
  rw [z_rx, s, r2, if_pos rfl]
  rfl
/-- .. in a slot -/
theorem rep_bor {xs : List D} {i : Nat} (h : plainL xs = true) (r : reprX (.lst xs) = true) (env : Dn.Env) (hi : env[i]? = some (some (.own xs))) : fReprX env [.bor i] = some (.str (py (.lst xs)).shown) := by
  have nb := plainL_noBor _ h
  have fz := frzL_plain _ h
  have hl : i < env.length := (List.getElem?_eq_some_iff.mp hi).1
  have e : sub ((bors (.bor i)).foldl frzAt env) (.bor i) = .lst xs := by
    have e1 : (bors (.bor i)).foldl frzAt env = frzAt env i := rfl
    have e2 : (frzAt env i)[i]? = some (some (.lst xs)) := by
      unfold frzAt
      rw [hi]
      simp [fz, hl]
    rw [e1, sub, e2]
  rw [z_rx, e, r, if_pos rfl]
end Kx
namespace Kx
open PySem PySem.Spec L2 Dn
/-! changed histories -/
section
variable (F : Dn.Env → List D → Option D) (fs : Dn.Env → Out (List D)) (ds : List D) (e1 : Dn.Env) (d : D)
def ofO (F : Dn.Env → List D → Option D) (o : Out (List D)) : Out D := o.bind fun ds env1 => opF1 F ds env1 (F env1 ds)
@[simp] theorem z_opF : dOpF F fs e1 = ofO F (fs e1) := (Eq.refl _).trans (Eq.refl _)
@[simp] theorem z_ofO : ofO F (.ok ds e1) = opF1 F ds e1 (F e1 ds) := (Eq.refl _).trans (Eq.refl _)
@[simp] theorem z_opF1 : opF1 F ds e1 (some d) = .ok d e1 := (Eq.refl _).trans (Eq.refl _)
end
theorem add_ll (env : Dn.Env) (xs ys : List D) (h1 : plainL xs = true) (h2 : plainL ys = true) (hl : xs.length + ys.length ≤ sizeLine) : fAdd env [.lst xs, .lst ys] = some (.own (xs ++ ys)) := by
  show (if plainL xs = true ∧ plainL ys = true ∧ xs.length + ys.length ≤ sizeLine then some (D.own (xs ++ ys)) else none) = _
  rw [if_pos ⟨h1, h2, hl⟩]
theorem frzL_len : ∀ xs : List D, (frzL xs).length = xs.length
  | [] => rfl
  | x :: xs => by rw [frzL, List.length_cons, List.length_cons, frzL_len xs]
/-- two new lists put together, frozen where they must be -/
theorem addF (env : Dn.Env) (xs ys : List D) (h1 : noBorL xs = true) (h2 : noBorL ys = true) (b1 : borsL xs = []) (b2 : borsL ys = []) (hl : xs.length + ys.length ≤ sizeLine) : opF1 fAdd [.own xs, .own ys] env (fAdd env [.own xs, .own ys]) = .ok (.own (frzL xs ++ frzL ys)) env := by
  have e : fAdd env [.own xs, .own ys] = if plainL xs = true ∧ plainL ys = true ∧ xs.length + ys.length ≤ sizeLine then some (.own (xs ++ ys)) else none := by
    rw [z_addow]; rfl
  rw [e]
  split
  · rename_i h
    rw [frzL_plain _ h.1, frzL_plain _ h.2.1]
    rfl
  · have b : borsL [D.own xs, .own ys] = [] := by simp [b1, b2]
    unfold opF1
    simp only [b, List.foldl_nil]
    have f : frzL [D.own xs, .own ys] = [.lst (frzL xs), .lst (frzL ys)] := rfl
    rw [f, add_ll env _ _ (plainL_frz _ h1) (plainL_frz _ h2) (by rw [frzL_len, frzL_len]; exact hl)]
    rfl
theorem add_m (env : Dn.Env) (i : Nat) (xs ys : List D) (h : rdM env (.bor i) = some xs) (h1 : plainL xs = true) (h2 : plainL ys = true) (hl : xs.length + ys.length ≤ sizeLine) : fAdd env [.bor i, .lst ys] = some (.own (xs ++ ys)) := by
  show (match rdM env (.bor i), rdM env (.lst ys) with
    | some xs, some ys => if plainL xs = true ∧ plainL ys = true ∧ xs.length + ys.length ≤ sizeLine then some (D.own (xs ++ ys)) else none
    | _, _ => _) = _
  rw [h]
  show (if plainL xs = true ∧ plainL ys = true ∧ xs.length + ys.length ≤ sizeLine then some (D.own (xs ++ ys)) else none) = _
  rw [if_pos ⟨h1, h2, hl⟩]
/-- a list in a slot and a new one that is not plain -/
theorem addB (env : Dn.Env) (i : Nat) (xs ys : List D) (he : env[i]? = some (some (.own xs))) (h1 : noBorL xs = true) (h2 : noBorL ys = true) (b2 : borsL ys = []) (np : plainL ys = false) (hl : xs.length + ys.length ≤ sizeLine) : opF1 fAdd [.bor i, .own ys] env (fAdd env [.bor i, .own ys]) = .ok (.own (frzL xs ++ frzL ys)) (frzAt env i) := by
  have e : fAdd env [.bor i, .own ys] = none := by
    rw [z_addbo]
    unfold adO
    split
    · rename_i a b e1 e2
      cases e2
      rw [if_neg (by rw [np]; simp)]
    · rfl
  rw [e]
  have b : borsL [D.bor i, .own ys] = [i] := by simp [b2]
  unfold opF1
  simp only [b, List.foldl_cons, List.foldl_nil]
  have f : frzL [D.bor i, .own ys] = [.bor i, .lst (frzL ys)] := rfl
  have hi : i < env.length := (List.getElem?_eq_some_iff.mp he).1
  have g : (frzAt env i)[i]? = some (some (.lst (frzL xs))) := by
    unfold frzAt
    rw [he]
    simp [hi]
  have r : rdM (frzAt env i) (.bor i) = some (frzL xs) := by
    unfold rdM
    rw [show rd (frzAt env i) (.bor i) = some (.lst (frzL xs)) by
      rw [z_rdb, g]]
    rfl
  rw [f, add_m _ i _ _ r (plainL_frz _ h1) (plainL_frz _ h2) (by rw [frzL_len, frzL_len]; exact hl)]
  rfl
/-- pages -/
def Pg (X : List D) : Prop := ∀ d ∈ X, ∃ x, d = .str x ∧ pageB x = true
structure Ps (X : List D) : Prop where
  pl : plainL X = true
  nb : noBorL X = true
  fz : frzL X = X
  br : borsL X = []
theorem ps_of {X : List D} (h : plainL X = true) : Ps X := by
  have t := tame (d := .lst X) (by simpa using h)
  exact ⟨h, plainL_noBor _ h, frzL_plain _ h, by simpa using t.2.2.2.2⟩
theorem Pg.ps {X : List D} (h : Pg X) : Ps X := ps_of (by
  induction X with
  | nil => rfl
  | cons d X ih =>
    obtain ⟨x, rfl, _⟩ := h d List.mem_cons_self
    rw [plainL_cons, ih fun e he => h e (List.mem_cons_of_mem _ he)]
    rfl)
theorem Pg.cut {X : List D} (h : Pg X) (lo hi : Option Int) : Pg (cutD X lo hi) := fun d hd => by
  unfold cutD at hd
  exact h d (List.mem_of_mem_drop (List.mem_of_mem_take hd))
theorem cut_len (X : List D) (lo hi : Option Int) : (cutD X lo hi).length ≤ X.length := by
  unfold cutD
  rw [List.length_take, List.length_drop]
  omega
end Kx
namespace Kx
open PySem PySem.Spec L2 Dn
abbrev ch1 : Dn.Env → SOut := (dSet 3 (dCallM f_l_draw (dCons (dVar 0) (dCons (dOpF fAdd (dCons (dOp fLen (dCons (dVar 1) dNil)) (dCons (dC (.int 1)) dNil))) dNil))))
abbrev ch2 : Dn.Env → SOut := (dSet 4 (dOpF fIx (dCons (dVar 2) (dCons (dCallM f_l_draw (dCons (dVar 0) (dCons (dOp fLen (dCons (dVar 2) dNil)) dNil))) dNil))))
abbrev sA : Dn.Env → Out D := (dSl (dVar 1) dNoP (dPart (dVar 3)))
abbrev sB : Dn.Env → Out D := (dSl (dVar 1) (dPart (dOpF fAdd (dCons (dVar 3) (dCons (dC (.int 1)) dNil)))) dNoP)
abbrev sC : Dn.Env → Out D := (dSl (dVar 1) (dPart (dVar 3)) dNoP)
abbrev sD : Dn.Env → Out D := (dSl (dVar 1) (dPart (dC (.int 1))) dNoP)
abbrev sE : Dn.Env → Out D := (dSl (dVar 1) dNoP (dPart (dC (.int 1))))
abbrev sF : Dn.Env → Out D := (dSl (dVar 1) (dPart (dOp fNeg (dCons (dC (.int 1)) dNil))) dNoP)
abbrev plus (f g : Dn.Env → Out D) : Dn.Env → Out D := dOpF fAdd (dCons f (dCons g dNil))
abbrev ch3 : Dn.Env → SOut := (dSet 5 (dLst (dCons (plus (plus sA (dLst (dCons (dVar 4) dNil))) sB) (dCons (plus sA sB) (dCons (plus (plus sA (dLst (dCons (dVar 4) dNil))) sC) dNil)))))
abbrev ch4 : Dn.Env → SOut := (dSet 5 (plus (dVar 5) (dLst (dCons (plus sD sE) (dCons (plus (dVar 1) sF) (dCons (dOp fTupOf (dCons (dVar 1) dNil)) (dCons (dC .non) (dCons (dC (.int 0)) (dCons (dC (.str "a")) (dCons (dC (.odic [] [])) (dCons (dLst (dCons (dC .non) dNil)) dNil)))))))))))
abbrev ch5 : Dn.Env → SOut := (dRet (plus (dVar 5) (dLst (dCons (plus (plus sA (dLst (dCons (dLst (dCons (dVar 4) dNil)) dNil))) sB) (dCons (plus (plus sA (dLst (dCons (dC (.str "zqzq")) dNil))) sB) dNil)))))
theorem ge_changed : g_l_changed = dSeq ch1 (dSeq ch2 (dSeq ch3 (dSeq ch4 ch5))) := rfl
section
variable (S P : Option D) (G : List D) (a : Nat) (o : Str) (z : Option D)
abbrev Ec : Dn.Env := [S, some (.lst G), P, some (.int (a : Nat)), some (.str o), z]
theorem sA_ok (h : plainL G = true) : sA (Ec S P G a o z) = .ok (.own (cutD G none (some (a : Int)))) (Ec S P G a o z) := by simp [sA, Ec, h]
theorem sB_ok (h : plainL G = true) : sB (Ec S P G a o z) = .ok (.own (cutD G (some ((a : Int) + 1)) none)) (Ec S P G a o z) := by simp [sB, Ec, h]
theorem sC_ok (h : plainL G = true) : sC (Ec S P G a o z) = .ok (.own (cutD G (some (a : Int)) none)) (Ec S P G a o z) := by simp [sC, Ec, h]
theorem sD_ok (h : plainL G = true) : sD (Ec S P G a o z) = .ok (.own (cutD G (some 1) none)) (Ec S P G a o z) := by simp [sD, Ec, h]
theorem sE_ok (h : plainL G = true) : sE (Ec S P G a o z) = .ok (.own (cutD G none (some 1))) (Ec S P G a o z) := by simp [sE, Ec, h]
theorem sF_ok (h : plainL G = true) : sF (Ec S P G a o z) = .ok (.own (cutD G (some (-1)) none)) (Ec S P G a o z) := by simp [sF, Ec, h]
theorem plus_ok {f g : Dn.Env → Out D} {e : Dn.Env} {xs ys : List D} (h1 : f e = .ok (.own xs) e) (h2 : g e = .ok (.own ys) e) (p1 : Ps xs) (q1 : noBorL ys = true) (q2 : borsL ys = []) (hl : xs.length + ys.length ≤ 100000) : plus f g e = .ok (.own (xs ++ frzL ys)) e := by
  have hs : (dCons f (dCons g dNil)) e = .ok [.own xs, .own ys] e := by simp [h1, h2]
  unfold plus dOpF
  rw [hs, Out.bind_ok, addF e xs ys p1.nb q1 p1.br q2 (Nat.le_trans hl (by decide)), p1.fz]
theorem one4 : (dLst (dCons (dVar 4) dNil)) (Ec S P G a o z) = .ok (.own [.str o]) (Ec S P G a o z) := by simp [Ec]
theorem oneL4 : (dLst (dCons (dLst (dCons (dVar 4) dNil)) dNil)) (Ec S P G a o z) = .ok (.own [.own [.str o]]) (Ec S P G a o z) := by simp [Ec]
theorem oneZ : (dLst (dCons (dC (.str "zqzq")) dNil)) (Ec S P G a o z) = .ok (.own [.str "zqzq"]) (Ec S P G a o z) := by simp [Ec]
theorem mid_ok {f g m : Dn.Env → Out D} {e : Dn.Env} {xs ys : List D} {d : D} (h1 : f e = .ok (.own xs) e) (hm : m e = .ok (.own [d]) e) (h2 : g e = .ok (.own ys) e) (p1 : Ps xs) (nd : noBor d = true) (bd : bors d = []) (pf : plain (frz d) = true) (p2 : Ps ys) (hl : xs.length + ys.length ≤ 90000) :
    plus (plus f m) g e = .ok (.own (xs ++ [frz d] ++ ys)) e := by
  have q := plus_ok h1 hm p1 (by simp [nd]) (by simp [bd]) (by simp; omega)
  have e1 : frzL [d] = [frz d] := rfl
  rw [e1] at q
  have p3 : Ps (xs ++ [frz d]) := ps_of (by rw [plainL_append, p1.pl]; simp [pf])
  rw [plus_ok q h2 p3 p2.nb p2.br (by simp; omega), p2.fz]
theorem plusB {m : Dn.Env → Out D} {X Y : List D} (hm : m (Ec S P G a o (some (.own X))) = .ok (.own Y) (Ec S P G a o (some (.own X)))) (h1 : noBorL X = true) (h2 : noBorL Y = true) (b2 : borsL Y = []) (np : plainL Y = false) (hl : X.length + Y.length ≤ 1000) : plus (dVar 5) m (Ec S P G a o (some (.own X))) = .ok (.own (frzL X ++ frzL Y)) (Ec S P G a o (some (.lst (frzL X)))) := by
  have v5 : dVar 5 (Ec S P G a o (some (.own X))) = .ok (.bor 5) (Ec S P G a o (some (.own X))) := by simp [Ec]
  have hs : (dCons (dVar 5) (dCons m dNil)) (Ec S P G a o (some (.own X))) = .ok [.bor 5, .own Y] (Ec S P G a o (some (.own X))) := by
    generalize Ec S P G a o (some (.own X)) = E at *
    simp [↓v5, hm]
  unfold plus dOpF
  rw [hs, Out.bind_ok, addB _ 5 X Y rfl h1 h2 b2 np (Nat.le_trans hl (by decide))]
  rfl
theorem plusL {m : Dn.Env → Out D} {Y : List D} (hG : Ps G) (hm : m (Ec S P G a o z) = .ok (.own Y) (Ec S P G a o z)) (hY : Ps Y) (hl : G.length + Y.length ≤ 100000) : plus (dVar 1) m (Ec S P G a o z) = .ok (.own (G ++ Y)) (Ec S P G a o z) := by
  have v1 : dVar 1 (Ec S P G a o z) = .ok (.lst G) (Ec S P G a o z) := by simp [Ec, hG.pl]
  have hs : (dCons (dVar 1) (dCons m dNil)) (Ec S P G a o z) = .ok [.lst G, .own Y] (Ec S P G a o z) := by
    generalize Ec S P G a o z = E at *
    simp [↓v1, hm]
  unfold plus dOpF
  rw [hs, Out.bind_ok, ad_lst _ _ _ hG.pl hY.pl (Nat.le_trans hl (by decide))]
  rfl
end
theorem pg_strs {gs : List Str} (h : ∀ x ∈ gs, pageB x = true) : Pg (gs.map D.str) := fun d hd => by
  obtain ⟨x, hx, rfl⟩ := List.mem_map.mp hd
  exact ⟨x, rfl, h x hx⟩
theorem Pg.itm {X : List D} (h : Pg X) : ∀ d ∈ X, Itm d := fun d hd => .inl (h d hd)
/-- a thing asked with: judged and shown -/
def Tg (d : D) : Prop := Thg d ∧ Dec 5000 5 d
theorem tg_lst {X : List D} (h : ∀ d ∈ X, Itm d) (hl : X.length ≤ 500) : Tg (.lst X) := by
  refine ⟨.inr ⟨X, rfl, by omega, h⟩, (dec_lst fun d hd => dec_itm (h d hd)).mono ?_ (by decide)⟩
  have : X.length * (5 + 1) ≤ 500 * 6 := Nat.mul_le_mul_right _ hl
  omega
theorem tg_tup {gs : List Str} (h : ∀ x ∈ gs, pageB x = true) (hl : gs.length ≤ 500) : Tg (.tup (gs.map D.str)) := by
  refine ⟨.inl ⟨⟨by simpa using plain_strs gs, fun _ => rfl, "tuple", rfl, by decide⟩, rfl⟩, (dec_tup (dec_strs h)).mono ?_ (by decide)⟩
  rw [List.length_map]
  omega
theorem tg_non : Tg .non := ⟨.inl ⟨⟨rfl, fun _ => rfl, "NoneType", rfl, by decide⟩, rfl⟩, ⟨rfl, by decide, by decide⟩⟩
theorem tg_zero : Tg (.int 0) := ⟨.inl ⟨⟨rfl, fun _ => rfl, "int", rfl, by decide⟩, rfl⟩, ⟨rfl, by decide +kernel, by decide +kernel⟩⟩
theorem tg_a : Tg (.str "a") := ⟨.inl ⟨⟨rfl, fun _ => rfl, "str", rfl, by decide⟩, rfl⟩, ⟨by decide +kernel, by decide +kernel, by decide +kernel⟩⟩
theorem tg_dic : Tg (.dic [] []) := ⟨.inl ⟨⟨rfl, fun _ => rfl, "dict", rfl, by decide⟩, rfl⟩, ⟨rfl, by decide +kernel, by decide +kernel⟩⟩
end Kx
namespace Kx
open PySem PySem.Spec L2 Dn
theorem changed_ok {n : Nat} {xs : List D} {gs ps : List Str} (hg : ∀ x ∈ gs, pageB x = true) (hgl : gs.length ≤ 200) (hp : ∀ x ∈ ps, pageB x = true) (hp0 : 0 < ps.length) (hpl : ps.length ≤ 1000) (h : Sr (n + 2) (.own xs)) :
    ∃ (ts : List D) (xs' : List D), f_l_changed [.own xs, .lst (gs.map D.str), .lst (ps.map D.str)] = .ok (.own ts) [some (.own xs'), some (.lst (gs.map D.str)), some (.lst (ps.map D.str))] ∧ Sr n (.own xs') ∧ (∀ t ∈ ts, Tg t) ∧ ts.length = 13 := by
  have lG : (gs.map D.str).length = gs.length := List.length_map ..
  have lP : (ps.map D.str).length = ps.length := List.length_map ..
  obtain ⟨a, x1, d1, l1, s1, nb1⟩ := drawO (n := n + 1) (bd := (gs.length : Int) + 1) h (by omega) (by omega)
  obtain ⟨r, x2, d2, l2, s2, nb2⟩ := drawO (n := n) (bd := (ps.length : Nat)) s1 (by omega) (by omega)
  have hr : r < ps.length := by omega
  have e1 : atI (ps.map D.str) (r : Nat) = some (.str ps[r]) := atI_n (by rw [List.getElem?_map, List.getElem?_eq_getElem hr]; rfl)
  have ho : pageB ps[r] = true := hp _ (List.getElem_mem hr)
  have pP := plain_strs ps
  have pG := plain_strs gs
  have g0 : Pg (gs.map D.str) := pg_strs hg
  have h1 : ch1 [some (.own xs), some (.lst (gs.map D.str)), some (.lst (ps.map D.str)), none, none, none] = .nx [some (.own x1), some (.lst (gs.map D.str)), some (.lst (ps.map D.str)), some (.int (a : Nat)), none, none] := by
    have z1 : gs.length ≤ 16777216 := by omega
    generalize gs.map D.str = G at *
    generalize ps.map D.str = P at *
    simp [ch1, pG, lG, z1, d1, nb1]
  have h2 : ch2 [some (.own x1), some (.lst (gs.map D.str)), some (.lst (ps.map D.str)), some (.int (a : Nat)), none, none] = .nx [some (.own x2), some (.lst (gs.map D.str)), some (.lst (ps.map D.str)), some (.int (a : Nat)), some (.str ps[r]), none] := by
    have z1 : ps.length ≤ 16777216 := by omega
    generalize gs.map D.str = G at *
    generalize ps[r] = o at *
    generalize ps.map D.str = P at *
    simp [ch2, pP, lP, z1, d2, nb2, e1]
  generalize ps[r] = o at *
  have io : Itm (.str o) := .inl ⟨o, rfl, ho⟩
  have gP : gs.map D.str = gs.map D.str := rfl
  have cl := cut_len (gs.map D.str)
  rw [lG] at cl
  have gc := g0.cut
  have ic : ∀ lo hi, ∀ d ∈ cutD (gs.map D.str) lo hi, Itm d := fun lo hi => (gc lo hi).itm
  have tG : Tg (.tup (gs.map D.str)) := tg_tup hg (by omega)
  have gi : ∀ d ∈ gs.map D.str, Itm d := g0.itm
  generalize gs.map D.str = G at *
  generalize ps.map D.str = P at *
  have cA := cl none (some (a : Int))
  have cB := cl (some ((a : Int) + 1)) none
  have cC := cl (some (a : Int)) none
  have cD := cl (some 1) none
  have cE := cl none (some 1)
  have cF := cl (some (-1)) none
  have qA := (gc none (some (a : Int))).ps
  have qB := (gc (some ((a : Int) + 1)) none).ps
  have qC := (gc (some (a : Int)) none).ps
  have qD := (gc (some 1) none).ps
  have qE := (gc none (some 1)).ps
  have qF := (gc (some (-1)) none).ps
  have iA := ic none (some (a : Int))
  have iB := ic (some ((a : Int) + 1)) none
  have iC := ic (some (a : Int)) none
  have iD := ic (some 1) none
  have iE := ic none (some 1)
  have iF := ic (some (-1)) none
  have kA := fun z => sA_ok (some (.own x2)) (some (.lst P)) G a o z pG
  have kB := fun z => sB_ok (some (.own x2)) (some (.lst P)) G a o z pG
  have kC := fun z => sC_ok (some (.own x2)) (some (.lst P)) G a o z pG
  have kD := fun z => sD_ok (some (.own x2)) (some (.lst P)) G a o z pG
  have kE := fun z => sE_ok (some (.own x2)) (some (.lst P)) G a o z pG
  have kF := fun z => sF_ok (some (.own x2)) (some (.lst P)) G a o z pG
  generalize cutD G none (some (a : Int)) = A at *
  generalize cutD G (some ((a : Int) + 1)) none = B at *
  generalize cutD G (some (a : Int)) none = C at *
  generalize cutD G (some 1) none = D1 at *
  generalize cutD G none (some 1) = E1 at *
  generalize cutD G (some (-1)) none = F1 at *
  have u1 := fun z => mid_ok (kA z) (one4 (some (.own x2)) (some (.lst P)) G a o z) (kB z) qA rfl rfl rfl qB (by omega)
  have u2 := fun z => plus_ok (kA z) (kB z) qA qB.nb qB.br (by omega)
  have u3 := fun z => mid_ok (kA z) (one4 (some (.own x2)) (some (.lst P)) G a o z) (kC z) qA rfl rfl rfl qC (by omega)
  have u4 := fun z => plus_ok (kD z) (kE z) qD qE.nb qE.br (by omega)
  have u5 := fun z => plusL (some (.own x2)) (some (.lst P)) G a o z (ps_of pG) (kF z) qF (by omega)
  have u6 := fun z => mid_ok (kA z) (oneL4 (some (.own x2)) (some (.lst P)) G a o z) (kB z) qA rfl rfl rfl qB (by omega)
  have u7 := fun z => mid_ok (kA z) (oneZ (some (.own x2)) (some (.lst P)) G a o z) (kB z) qA rfl rfl rfl qB (by omega)
  simp only [qB.fz, qE.fz] at u2 u4
  have f6 : frz (.own [.str o]) = .lst [.str o] := rfl
  have f7 : frz (.str "zqzq") = .str "zqzq" := rfl
  have f1 : frz (.str o) = .str o := rfl
  simp only [f6, f7, f1] at u1 u3 u6 u7
  have io6 : Itm (.lst [.str o]) := .inr (.inr ⟨o, rfl, ho⟩)
  have io7 : Itm (.str "zqzq") := .inl ⟨_, rfl, by decide +kernel⟩
  have app3 : ∀ {X Y : List D} {d : D}, (∀ e ∈ X, Itm e) → Itm d → (∀ e ∈ Y, Itm e) → ∀ e ∈ X ++ [d] ++ Y, Itm e := fun hX hd hY e he => by
    rcases List.mem_append.mp he with he | he
    · rcases List.mem_append.mp he with he | he
      · exact hX e he
      · rw [List.mem_singleton.mp he]; exact hd
    · exact hY e he
  have app2 : ∀ {X Y : List D}, (∀ e ∈ X, Itm e) → (∀ e ∈ Y, Itm e) → ∀ e ∈ X ++ Y, Itm e := fun hX hY e he => by
    rcases List.mem_append.mp he with he | he
    · exact hX e he
    · exact hY e he
  have t1 : Tg (.lst (A ++ [.str o] ++ B)) := tg_lst (app3 iA io iB) (by simp; omega)
  have t2 : Tg (.lst (A ++ B)) := tg_lst (app2 iA iB) (by simp; omega)
  have t3 : Tg (.lst (A ++ [.str o] ++ C)) := tg_lst (app3 iA io iC) (by simp; omega)
  have t4 : Tg (.lst (D1 ++ E1)) := tg_lst (app2 iD iE) (by simp; omega)
  have t5 : Tg (.lst (G ++ F1)) := tg_lst (app2 gi iF) (by simp; omega)
  have t6 : Tg (.lst (A ++ [.lst [.str o]] ++ B)) := tg_lst (app3 iA io6 iB) (by simp; omega)
  have t7 : Tg (.lst (A ++ [.str "zqzq"] ++ B)) := tg_lst (app3 iA io7 iB) (by simp; omega)
  have pt : ∀ {X : List D}, Tg (.lst X) → Ps X := fun h => ps_of (by simpa using h.1.plain)
  generalize A ++ [.str o] ++ B = L1 at *
  generalize A ++ B = L2 at *
  generalize A ++ [.str o] ++ C = L3 at *
  generalize D1 ++ E1 = L4 at *
  generalize G ++ F1 = L5 at *
  generalize A ++ [.lst [.str o]] ++ B = L6 at *
  generalize A ++ [.str "zqzq"] ++ B = L7 at *
  have p1 := pt t1
  have p2 := pt t2
  have p3 := pt t3
  have p4 := pt t4
  have p5 := pt t5
  have p6 := pt t6
  have p7 := pt t7
  have h3 : ch3 (Ec (some (.own x2)) (some (.lst P)) G a o none) = .nx (Ec (some (.own x2)) (some (.lst P)) G a o (some (.own [.own L1, .own L2, .own L3]))) := by
    have v1 := u1 none
    have v2 := u2 none
    have v3 := u3 none
    have w : ∀ z, (Ec (some (.own x2)) (some (.lst P)) G a o none).set 5 z = Ec (some (.own x2)) (some (.lst P)) G a o z := fun z => rfl
    have wl : (Ec (some (.own x2)) (some (.lst P)) G a o none).length = 6 := rfl
    generalize Ec (some (.own x2)) (some (.lst P)) G a o none = E0 at *
    simp [ch3, ↓v1, ↓v2, ↓v3, p1.nb, p2.nb, p3.nb, w, wl]
  have h4 : ch4 (Ec (some (.own x2)) (some (.lst P)) G a o (some (.own [.own L1, .own L2, .own L3]))) = .nx (Ec (some (.own x2)) (some (.lst P)) G a o (some (.own [.lst L1, .lst L2, .lst L3, .lst L4, .lst L5, .tup G, .non, .int 0, .str "a", .dic [] [], .lst [.non]]))) := by
    have tt : ∀ z, (dOp fTupOf (dCons (dVar 1) dNil)) (Ec (some (.own x2)) (some (.lst P)) G a o z) = .ok (.tup G) (Ec (some (.own x2)) (some (.lst P)) G a o z) := fun z => by simp [Ec, pG]
    have m : (dLst (dCons (plus sD sE) (dCons (plus (dVar 1) sF) (dCons (dOp fTupOf (dCons (dVar 1) dNil)) (dCons (dC .non) (dCons (dC (.int 0)) (dCons (dC (.str "a")) (dCons (dC (.odic [] [])) (dCons (dLst (dCons (dC .non) dNil)) dNil))))))))) (Ec (some (.own x2)) (some (.lst P)) G a o (some (.own [.own L1, .own L2, .own L3]))) = .ok (.own [.own L4, .own L5, .tup G, .non, .int 0, .str "a", .odic [] [], .own [.non]]) (Ec (some (.own x2)) (some (.lst P)) G a o (some (.own [.own L1, .own L2, .own L3]))) := by
      have v4 := u4 (some (.own [.own L1, .own L2, .own L3]))
      have v5 := u5 (some (.own [.own L1, .own L2, .own L3]))
      have v6 := tt (some (.own [.own L1, .own L2, .own L3]))
      have nG := (ps_of pG).nb
      generalize Ec (some (.own x2)) (some (.lst P)) G a o (some (.own [.own L1, .own L2, .own L3])) = E0 at *
      simp [↓v4, ↓v5, ↓v6, p4.nb, p5.nb, nG]
    have nG := (ps_of pG).nb
    have bG := (ps_of pG).br
    have fG := (ps_of pG).fz
    have q := plusB (some (.own x2)) (some (.lst P)) G a o m (by simp [p1.nb, p2.nb, p3.nb]) (by simp [p4.nb, p5.nb, nG]) (by simp [p4.br, p5.br, bG]) (by simp) (by simp)
    have f : frzL [.own L1, .own L2, .own L3] ++ frzL [.own L4, .own L5, .tup G, .non, .int 0, .str "a", .odic [] [], .own [.non]] = [.lst L1, .lst L2, .lst L3, .lst L4, .lst L5, .tup G, .non, .int 0, .str "a", .dic [] [], .lst [.non]] := by
      simp [p1.fz, p2.fz, p3.fz, p4.fz, p5.fz, fG]
    rw [f] at q
    have nn : noBor (.own [.lst L1, .lst L2, .lst L3, .lst L4, .lst L5, .tup G, .non, .int 0, .str "a", .dic [] [], .lst [.non]]) = true := by simp [p1.nb, p2.nb, p3.nb, p4.nb, p5.nb, nG]
    show sO 5 (plus _ _ _) = _
    rw [q]
    generalize [D.lst L1, .lst L2, .lst L3, .lst L4, .lst L5, .tup G, .non, .int 0, .str "a", .dic [] [], .lst [.non]] = TS at *
    simp [Ec, nn]
  have h5 : ch5 (Ec (some (.own x2)) (some (.lst P)) G a o (some (.own [.lst L1, .lst L2, .lst L3, .lst L4, .lst L5, .tup G, .non, .int 0, .str "a", .dic [] [], .lst [.non]]))) = .rt (.own [.lst L1, .lst L2, .lst L3, .lst L4, .lst L5, .tup G, .non, .int 0, .str "a", .dic [] [], .lst [.non], .lst L6, .lst L7]) (Ec (some (.own x2)) (some (.lst P)) G a o (some (.lst [.lst L1, .lst L2, .lst L3, .lst L4, .lst L5, .tup G, .non, .int 0, .str "a", .dic [] [], .lst [.non]]))) := by
    have nG := (ps_of pG).nb
    have bG := (ps_of pG).br
    have fG := (ps_of pG).fz
    have nn : noBorL [D.lst L1, .lst L2, .lst L3, .lst L4, .lst L5, .tup G, .non, .int 0, .str "a", .dic [] [], .lst [.non]] = true := by simp [p1.nb, p2.nb, p3.nb, p4.nb, p5.nb, nG]
    have ff : frzL [D.lst L1, .lst L2, .lst L3, .lst L4, .lst L5, .tup G, .non, .int 0, .str "a", .dic [] [], .lst [.non]] = [D.lst L1, .lst L2, .lst L3, .lst L4, .lst L5, .tup G, .non, .int 0, .str "a", .dic [] [], .lst [.non]] := by simp [p1.fz, p2.fz, p3.fz, p4.fz, p5.fz, fG]
    have e2 : [D.lst L1, .lst L2, .lst L3, .lst L4, .lst L5, .tup G, .non, .int 0, .str "a", .dic [] [], .lst [.non], .lst L6, .lst L7] = [D.lst L1, .lst L2, .lst L3, .lst L4, .lst L5, .tup G, .non, .int 0, .str "a", .dic [] [], .lst [.non]] ++ [.lst L6, .lst L7] := rfl
    have ln : [D.lst L1, .lst L2, .lst L3, .lst L4, .lst L5, .tup G, .non, .int 0, .str "a", .dic [] [], .lst [.non]].length = 11 := rfl
    rw [e2]
    generalize [D.lst L1, .lst L2, .lst L3, .lst L4, .lst L5, .tup G, .non, .int 0, .str "a", .dic [] [], .lst [.non]] = TS at *
    have m : (dLst (dCons (plus (plus sA (dLst (dCons (dLst (dCons (dVar 4) dNil)) dNil))) sB) (dCons (plus (plus sA (dLst (dCons (dC (.str "zqzq")) dNil))) sB) dNil))) (Ec (some (.own x2)) (some (.lst P)) G a o (some (.own TS))) = .ok (.own [.own L6, .own L7]) (Ec (some (.own x2)) (some (.lst P)) G a o (some (.own TS))) := by
      have v6 := u6 (some (.own TS))
      have v7 := u7 (some (.own TS))
      generalize Ec (some (.own x2)) (some (.lst P)) G a o (some (.own TS)) = E0 at *
      simp [↓v6, ↓v7, p6.nb, p7.nb]
    have q := plusB (some (.own x2)) (some (.lst P)) G a o m nn (by simp [p6.nb, p7.nb]) (by simp [p6.br, p7.br]) (by simp) (by rw [ln]; simp)
    have f : frzL [D.own L6, .own L7] = [.lst L6, .lst L7] := by simp [p6.fz, p7.fz]
    rw [ff, f] at q
    have n2 : noBor (.own (TS ++ [.lst L6, .lst L7])) = true := by simpa using noBor_app nn (by simp [p6.nb, p7.nb])
    generalize TS ++ [.lst L6, .lst L7] = T2 at *
    show rO (plus _ _ _) = _
    rw [q]
    have n3 : noBorL T2 = true := by simpa using n2
    simp [n3, retV]
  refine ⟨[.lst L1, .lst L2, .lst L3, .lst L4, .lst L5, .tup G, .non, .int 0, .str "a", .dic [] [], .lst [.non], .lst L6, .lst L7], x2, ?_, s2, ?_, rfl⟩
  · have hg := dSeq_nx h1 (dSeq_nx h2 (dSeq_nx h3 (dSeq_nx h4 h5)))
    rw [← ge_changed] at hg
    refine fnD_rt hg rfl ?_
    simp [outsOf, List.range, List.range.loop, Ec]
  · have tn : Tg (.lst [.non]) := tg_lst (fun d hd => by rw [List.mem_singleton.mp hd]; exact .inr (.inl rfl)) (by decide)
    intro t ht
    simp only [List.mem_cons, List.not_mem_nil, or_false] at ht
    rcases ht with rfl | rfl | rfl | rfl | rfl | rfl | rfl | rfl | rfl | rfl | rfl | rfl | rfl
    · exact t1
    · exact t2
    · exact t3
    · exact t4
    · exact t5
    · exact tG
    · exact tg_non
    · exact tg_zero
    · exact tg_a
    · exact tg_dic
    · exact tn
    · exact t6
    · exact t7
end Kx
namespace Kx
open PySem PySem.Spec L2 Dn
theorem eq_lo (env : Dn.Env) (xs ys : List D) : fEq env [.lst xs, .own ys] = qeO (sub env (.lst xs)) (sub env (.own ys)) := by
  unfold fEq fEqB qeO
  simp only [scalD, flat, Bool.false_and, Bool.false_eq_true, if_false]
  split <;> rfl
theorem evs_empty {l : List (Bool × Str)} (h : ∀ q ∈ l, pageB q.2 = true) : qeO (.lst (evs l)) (.own []) = some (.bl l.isEmpty) := by
  have t := txt_evs h
  have e1 : py (.lst (evs l)) = .list (l.map evP) := by rw [← pyL_evs]; rfl
  have l1 : lay (.lst (evs l)) = true := by
    unfold lay
    rw [e1]
    unfold SeqAt.shaped
    have c : PyData.canLay0 (.list (l.map evP)) = true := t.lay
    have d : PyData.depth (.list (l.map evP)) ≤ 64 := by have := t.depth; show PyData.depthAll _ + 1 ≤ 64; omega
    rw [c, decide_eq_true d]
    rfl
  have l2 : lay (.own []) = true := by decide
  have e2 : eqD (.lst (evs l)) (.own []) = l.isEmpty := by
    unfold eqD
    rw [e1]
    cases l <;> rfl
  unfold qeO
  rw [l1, l2, e2]
  rfl
theorem bent_ok {n : Nat} {xs : List D} {l : List (Bool × Str)} (h : Log l) (s : Sr (n + 1) (.own xs)) :
    ∃ (l' : List (Bool × Str)) (xs' : List D), f_l_bent [.own xs, .lst (evs l)] = .ok (.own (evs l')) [some (.own xs'), some (.lst (evs l))] ∧ Sr n (.own xs') ∧ Log l' ∧ l'.length ≤ l.length + 1 := by
  have pe := plain_evs l
  have em := evs_empty h.2
  by_cases h0 : l = []
  · subst h0
    refine ⟨[(false, "a")], xs, ?_, s.mono (by omega), ⟨by decide, fun q hq => by rw [List.mem_singleton.mp hq]; decide +kernel⟩, by simp⟩
    have t := tame (d := .lst (evs [])) (by simpa using pe)
    have e : evs [(false, "a")] = [.tup [.str "hit", .str "a"]] := rfl
    rw [e]
    have sq : ∀ e, fEq e [.lst (evs []), .own []] = some (.bl true) := fun e => by
      rw [eq_lo, t.2.2.2.1]
      exact em
    generalize D.lst (evs []) = L at *
    obtain ⟨y, ey, nb, _⟩ := s.own
    cases ey
    simp [f_l_bent, fnD, g_l_bent, outsOf, List.range, List.range.loop, t, ↓sq, retV, takeL, nb]
  · have hl : 0 < l.length := List.length_pos_iff.mpr h0
    have lE : (evs l).length = l.length := by unfold evs; exact List.length_map ..
    obtain ⟨r, x1, d1, l1, s1, nb1⟩ := drawO (n := n) (bd := (l.length : Nat)) s (by omega) (by have := h.1; omega)
    have hr : r < l.length := by omega
    obtain ⟨m, p, hq⟩ : ∃ m p, l[r] = (m, p) := ⟨_, _, rfl⟩
    have hmem : (m, p) ∈ l := hq ▸ List.getElem_mem hr
    have hp : pageB p = true := h.2 _ hmem
    have lg : Log (l.take r ++ [(!m, p)] ++ l.drop (r + 1)) := by
      refine ⟨?_, fun q hq => ?_⟩
      · have := h.1
        rw [List.length_append, List.length_append, List.length_take, List.length_drop, List.length_singleton]; omega
      · rcases List.mem_append.mp hq with hq | hq
        · rcases List.mem_append.mp hq with hq | hq
          · exact h.2 q (List.mem_of_mem_take hq)
          · rw [List.mem_singleton.mp hq]; exact hp
        · exact h.2 q (List.mem_of_mem_drop hq)
    refine ⟨l.take r ++ [(!m, p)] ++ l.drop (r + 1), x1, ?_, s1, lg, by rw [List.length_append, List.length_append, List.length_take, List.length_drop, List.length_singleton]; omega⟩
    have e1 : atI (evs l) (r : Nat) = some (ev m p) := atI_n (by unfold evs; rw [List.getElem?_map, List.getElem?_eq_getElem hr, hq]; rfl)
    have c1 : cutD (evs l) none (some (r : Int)) = evs (l.take r) := by
      unfold cutD evs
      rw [HT.sIx_none, HT.sIx_nat, List.drop_zero, List.length_map, Nat.sub_zero, Nat.min_eq_left (by omega), List.map_take]
    have c2 : cutD (evs l) (some ((r : Int) + 1)) none = evs (l.drop (r + 1)) := by
      unfold cutD evs
      rw [show (r : Int) + 1 = ((r + 1 : Nat) : Int) by omega, HT.sIx_none, HT.sIx_nat, List.length_map, Nat.min_eq_left (by omega), List.map_drop, List.take_of_length_le (by rw [List.length_drop, List.length_map]; exact Nat.le_refl _)]
    have ea : evs (l.take r ++ [(!m, p)] ++ l.drop (r + 1)) = evs (l.take r) ++ [ev (!m) p] ++ evs (l.drop (r + 1)) := by unfold evs; rw [List.map_append, List.map_append]; rfl
    have pa := plain_evs (l.take r)
    have pb := plain_evs (l.drop (r + 1))
    have na := noBor_evs (l.take r)
    have nb := noBor_evs (l.drop (r + 1))
    have nc := noBor_evs (l.take r ++ [(!m, p)] ++ l.drop (r + 1))
    have la : (evs (l.take r)).length ≤ 1000 := by unfold evs; rw [List.length_map, List.length_take]; have := h.1; omega
    have lb : (evs (l.drop (r + 1))).length ≤ 1000 := by unfold evs; rw [List.length_map, List.length_drop]; have := h.1; omega
    rw [ea] at nc ⊢
    have t := tame (d := .lst (evs l)) (by simpa using pe)
    have ne : l.isEmpty = false := by cases l with | nil => exact absurd rfl h0 | cons => rfl
    rw [ne] at em
    have sq : ∀ e, fEq e [.lst (evs l), .own []] = some (.bl false) := fun e => by
      rw [eq_lo, t.2.2.2.1]
      exact em
    have z1 : l.length ≤ 16777216 := by have := h.1; omega
    have mh := mkS_hit m
    have em1 : ev (!m) p = .tup [.str (if (!m) = true then "miss" else "hit"), .str p] := rfl
    have b1 : (dIfS (dB (dOp fEq (dCons (dVar 1) (dCons (dLst dNil) dNil)))) (dRet (dLst (dCons (dTup (dCons (dC (.str "hit")) (dCons (dC (.str "a")) dNil))) dNil))) dSkip) [some (.own xs), some (.lst (evs l)), none, none, none] = .nx [some (.own xs), some (.lst (evs l)), none, none, none] := by
      generalize D.lst (evs l) = L at *
      simp [t, ↓sq]
    have b2 : (dSet 2 (dCallM f_l_draw (dCons (dVar 0) (dCons (dOp fLen (dCons (dVar 1) dNil)) dNil)))) [some (.own xs), some (.lst (evs l)), none, none, none] = .nx [some (.own x1), some (.lst (evs l)), some (.int (r : Nat)), none, none] := by
      generalize evs l = ES at *
      simp [pe, lE, z1, d1, nb1]
    have b3 : (dAsg (dOp fIx (dCons (dVar 1) (dCons (dVar 2) dNil))) (gT 2 (gsCons (gN 3) (gsCons (gN 4) gsNil)))) [some (.own x1), some (.lst (evs l)), some (.int (r : Nat)), none, none] = .nx [some (.own x1), some (.lst (evs l)), some (.int (r : Nat)), some (.str (mkS m)), some (.str p)] := by
      rw [ev_mk] at e1
      generalize evs l = ES at *
      generalize mkS m = M at *
      simp [pe, e1]
    have b4 : (dRet (dOp fAdd (dCons (dOp fAdd (dCons (dSl (dVar 1) dNoP (dPart (dVar 2))) (dCons (dLst (dCons (dTup (dCons (dIf (dB (dOp fEq (dCons (dVar 3) (dCons (dC (.str "hit")) dNil)))) (dC (.str "miss")) (dC (.str "hit"))) (dCons (dVar 4) dNil))) dNil)) dNil))) (dCons (dSl (dVar 1) (dPart (dOp fAdd (dCons (dVar 2) (dCons (dC (.int 1)) dNil)))) dNoP) dNil)))) [some (.own x1), some (.lst (evs l)), some (.int (r : Nat)), some (.str (mkS m)), some (.str p)] = .rt (.own (evs (l.take r) ++ [ev (!m) p] ++ evs (l.drop (r + 1)))) [some (.own x1), some (.lst (evs l)), some (.int (r : Nat)), some (.str (mkS m)), some (.str p)] := by
      have la2 : (evs (l.take r)).length + 1 ≤ 16777216 := by omega
      have lab : (evs (l.take r)).length + 1 + (evs (l.drop (r + 1))).length ≤ 16777216 := by omega
      have nt : ∀ x : Str, plainL (evs (l.take r) ++ [.tup [.str x, .str p]]) = true := fun x => by rw [plainL_append, pa]; rfl
      rw [em1] at nc ⊢
      generalize evs (l.take r) = A at *
      generalize evs (l.drop (r + 1)) = B at *
      generalize evs l = ES at *
      generalize mkS m = M at *
      have sizes : ∀ x : D, (A ++ [x]).length + B.length ≤ 16777216 := fun x => by rw [List.length_append, List.length_singleton]; exact lab
      cases m <;> simp at nc <;> simp [pe, c1, c2, mh, pa, pb, na, nb, la2, nt, sizes, nc, retV, lab]
    have hg := dSeq_nx b1 (dSeq_nx b2 (dSeq_nx b3 b4))
    refine fnD_rt (env := [some (.own x1), some (.lst (evs l)), some (.int (r : Nat)), some (.str (mkS m)), some (.str p)]) hg rfl ?_
    generalize D.lst (evs l) = L at *
    simp [outsOf, List.range, List.range.loop]
end Kx
namespace Kx
open PySem PySem.Spec L2 Dn
/-! the law: drawing -/
abbrev T1 : Dn.Env → SOut := (dSet 4 (dOp fIx (dCons (dLst (dCons (dC (.int 20)) (dCons (dC (.int 125)) dNil))) (dCons (dCallM f_l_draw (dCons (dVar 2) (dCons (dC (.int 2)) dNil))) dNil))))
abbrev T2 : Dn.Env → SOut := (dAsg (dCallM f_l_setup (dCons (dVar 2) (dCons (dOp fIx (dCons (dLst (dCons (dC (.int 6)) (dCons (dC (.int 60)) dNil))) (dCons (dCallM f_l_draw (dCons (dVar 2) (dCons (dC (.int 2)) dNil))) dNil))) (dCons (dVar 4) dNil)))) (gT 4 (gsCons (gN 5) (gsCons (gN 6) (gsCons (gN 7) (gsCons (gN 8) gsNil))))))
abbrev T3 : Dn.Env → SOut := (dAsg (dCallM f_l_run (dCons (dVar 2) (dCons (dVar 5) (dCons (dVar 6) (dCons (dVar 7) (dCons (dVar 8) dNil)))))) (gT 3 (gsCons (gN 9) (gsCons (gN 10) (gsCons (gN 11) gsNil)))))
theorem t1_ok {n : Nat} {xs : List D} (sc k t a4 a5 a6 a7 a8 a9 a10 a11 a12 a13 a14 a15 a16 a17 : Option D) (h : Sr (n + 1) (.own xs)) : ∃ (lo : Nat) (xs' : List D),
    T1 [sc, k, some (.own xs), t, a4, a5, a6, a7, a8, a9, a10, a11, a12, a13, a14, a15, a16, a17] = .nx [sc, k, some (.own xs'), t, some (.int (lo : Nat)), a5, a6, a7, a8, a9, a10, a11, a12, a13, a14, a15, a16, a17] ∧ lo ≤ 125 ∧ Sr n (.own xs') := by
  obtain ⟨r, x1, d1, l1, s1, nb1⟩ := drawO (n := n) (bd := 2) h (by decide) (by decide)
  obtain ⟨mo, hm, hm2⟩ : ∃ m : Nat, atI [D.int 20, .int 125] (r : Nat) = some (.int (m : Nat)) ∧ m ≤ 125 := by
    have : r < 2 := by omega
    match r, this with
    | 0, _ => exact ⟨20, rfl, by decide⟩
    | 1, _ => exact ⟨125, rfl, by decide⟩
  exact ⟨mo, x1, by simp [T1, d1, nb1, hm], hm2, s1⟩
theorem t2_ok {n : Nat} {xs : List D} {lo : Nat} (hlo : lo ≤ 125) (sc k t a5 a6 a7 a8 a9 a10 a11 a12 a13 a14 a15 a16 a17 : Option D) (h : Sr (n + 1001) (.own xs)) : ∃ (room sz : Nat) (init rest : List Str) (xs' : List D),
    T2 [sc, k, some (.own xs), t, some (.int (lo : Nat)), a5, a6, a7, a8, a9, a10, a11, a12, a13, a14, a15, a16, a17] = .nx [sc, k, some (.own xs'), t, some (.int (lo : Nat)), some (.int (room : Nat)), some (.tup (init.map D.str)), some (.own ((rest ++ init).map D.str)), some (.int (sz : Nat)), a9, a10, a11, a12, a13, a14, a15, a16, a17] ∧
    1 ≤ room ∧ room ≤ 40 ∧ init.length ≤ room ∧ (init ++ rest).Nodup ∧ (∀ x ∈ init ++ rest, pageB x = true) ∧ 0 < (init ++ rest).length ∧ (init ++ rest).length ≤ 500 ∧ sz ≤ 125 ∧ Sr n (.own xs') := by
  obtain ⟨r, x1, d1, l1, s1, nb1⟩ := drawO (n := n + 1000) (bd := 2) h (by decide) (by decide)
  obtain ⟨mo, hm, hm1, hm2⟩ : ∃ m : Nat, atI [D.int 6, .int 60] (r : Nat) = some (.int (m : Nat)) ∧ 1 ≤ m ∧ m ≤ 500 := by
    have : r < 2 := by omega
    match r, this with
    | 0, _ => exact ⟨6, rfl, by decide, by decide⟩
    | 1, _ => exact ⟨60, rfl, by decide, by decide⟩
  obtain ⟨room, sz, init, rest, x2, d2, p1, p2, p3, p4, p5, p6, p7, p8, p9⟩ := setup_ok (n := n) (size := lo) hm1 hm2 (by omega) s1
  refine ⟨room, sz, init, rest, x2, ?_, p1, p2, p3, p4, p5, p6, p7, by omega, p9⟩
  obtain ⟨_, e9, nb2, _⟩ := p9.own
  cases e9
  have n1 := noBor_strs init
  have n2 := noBor_strs (rest ++ init)
  generalize init.map D.str = A at *
  generalize (rest ++ init).map D.str = B at *
  simp [T2, d1, nb1, hm, d2, nb2, n1, n2]
theorem noLst_evs (l : List (Bool × Str)) : noLstL (evs l) = true := by
  induction l with
  | nil => rfl
  | cons a l ih =>
    have e : evs (a :: l) = ev a.1 a.2 :: evs l := rfl
    rw [e]
    simp [ev, ih]
theorem noLst_conts (l : List (List Str)) : noLstL (conts l) = true := by
  unfold conts
  induction l with
  | nil => rfl
  | cons a l ih => simp [noLst_strs, ih]
theorem t3_ok {n : Nat} {xs : List D} {room sz : Nat} {init pages : List Str} (sc k t a4 a9 a10 a11 a12 a13 a14 a15 a16 a17 : Option D) (h : Sr (n + 600) (.own xs)) (hr1 : 1 ≤ room) (hr2 : room ≤ 100) (hnd : init.Nodup) (hi : init.length ≤ room) (hip : ∀ x ∈ init, pageB x = true) (hp : ∀ x ∈ pages, pageB x = true) (hp1 : 0 < pages.length) (hp2 : pages.length ≤ 1000) (hs : sz ≤ 125) :
    ∃ (xs' : List D) (H : List (Bool × Str)) (G : List Str) (C : List (List Str)), T3 [sc, k, some (.own xs), t, a4, some (.int (room : Nat)), some (.tup (init.map D.str)), some (.own (pages.map D.str)), some (.int (sz : Nat)), a9, a10, a11, a12, a13, a14, a15, a16, a17] =
      .nx [sc, k, some (.own xs'), t, a4, some (.int (room : Nat)), some (.tup (init.map D.str)), some (.own (pages.map D.str)), some (.int (sz : Nat)), some (.own (evs H)), some (.own (G.map D.str)), some (.own (conts (init :: C))), a12, a13, a14, a15, a16, a17] ∧
      Sr n (.own xs') ∧ H.length = sz ∧ (∀ q ∈ H, pageB q.2 = true) ∧ (∀ x ∈ G, pageB x = true) ∧ G.length ≤ sz ∧ C.length = sz ∧ (∀ c ∈ C, c.length ≤ room ∧ ∀ x ∈ c, pageB x = true) ∧ fo room init H (G.map D.str) = some C := by
  obtain ⟨x2, H, G, C, d2, p1, p2, p3, p4, p5, p6, p7, p8⟩ := run_ok (n := n) (size := sz) (room := room) (init := init) (pages := pages) (h.mono (by omega)) hr1 hr2 hnd hi hip hp hp1 hp2 (by omega)
  refine ⟨x2, H, G, C, ?_, p1, p2, p3, p4, p5, p6, p7, p8⟩
  obtain ⟨_, e9, nb2, _, nl2, _⟩ := p1.own
  cases e9
  have t1 := tame (d := .tup (init.map D.str)) (by simpa using plain_strs init)
  have n0 := noBor_strs pages
  have fz := frzL_plain _ (plain_strs pages)
  have n1 := noBor_evs H
  have n2 := noBor_strs G
  have n3 := noBor_conts (init :: C)
  have m1 := noLst_evs H
  have m2 := noLst_strs G
  have m3 := noLst_conts (init :: C)
  generalize D.tup (init.map D.str) = T at *
  generalize pages.map D.str = P at *
  generalize evs H = EH at *
  generalize G.map D.str = GG at *
  generalize conts (init :: C) = CC at *
  simp [T3, d2, nb2, nl2, t1, n0, fz, n1, n2, n3, m1, m2, m3]
/-! the law: what was told of the run -/
theorem lay_tpL {C : List (List Str)} (h : ∀ c ∈ C, ∀ x ∈ c, pageB x = true) : PyData.canLayAll0 (pyL (tpL C)) = true ∧ PyData.depthAll (pyL (tpL C)) ≤ 10 := by
  induction C with
  | nil => exact ⟨rfl, Nat.zero_le _⟩
  | cons c C ih =>
    obtain ⟨i1, i2⟩ := ih fun z hz => h z (List.mem_cons_of_mem _ hz)
    have t := txt_strs (xs := srtS c) fun x hx => h c List.mem_cons_self x (srtS_mem.mp hx)
    have e : py (tpC c) = .tuple ((srtS c).map PyData.str) := by rw [← pyL_strs]; rfl
    have e1 : tpL (c :: C) = tpC c :: tpL C := rfl
    rw [e1, pyL, e, PyData.canLayAll0, PyData.depthAll, i1, PyData.canLay0, t.lay, PyData.depth]
    have := t.depth
    exact ⟨rfl, by omega⟩
theorem tp_same {C : List (List Str)} (h : ∀ c ∈ C, ∀ x ∈ c, pageB x = true) : qnO (.own (tpL C)) (.own (tpL C)) = some (.bl false) ∧ qeO (.own (tpL C)) (.own (tpL C)) = some (.bl true) := by
  obtain ⟨a, b⟩ := lay_tpL h
  have q := qe_same (d := .own (tpL C)) (e := .own (tpL C)) (P := .list (pyL (tpL C))) rfl rfl a (by show PyData.depthAll _ + 1 ≤ 64; omega)
  exact ⟨q.2, q.1⟩
end Kx
namespace Kx
open PySem PySem.Spec L2 Dn
abbrev y1 : Dn.Env → SOut := (dSet 14 (dOp fReprX (dCons (dLst (dCons (dVar 6) (dCons (dVar 12) (dCons (dVar 13) dNil)))) dNil)))
abbrev y2 : Dn.Env → SOut := (dSet 15 (dCall f_l_told (dCons (dVar 5) (dCons (dVar 6) (dCons (dVar 12) (dCons (dVar 13) (dCons (dOp fEq (dCons (dVar 3) (dCons (dC (.int 1)) dNil))) dNil)))))))
abbrev y3 : Dn.Env → SOut := (dIfS (dB (dOp fNe (dCons (dOp fReprX (dCons (dVar 15) dNil)) (dCons (dOp fReprX (dCons (dCall f_l_followed (dCons (dVar 5) (dCons (dVar 6) (dCons (dVar 12) (dCons (dVar 13) dNil))))) dNil)) dNil)))) (dRet (dC (.bl false))) dSkip)
abbrev y4 : Dn.Env → SOut := (dIfS (dB (dOp fNe (dCons (dOp fReprX (dCons (dLst (dCons (dVar 6) (dCons (dVar 12) (dCons (dVar 13) dNil)))) dNil)) (dCons (dVar 14) dNil)))) (dRet (dC (.bl false))) dSkip)
abbrev yBody : Dn.Env → SOut := dSeq y1 (dSeq y2 (dSeq y3 y4))
abbrev EY (sc k src : Option D) (t : Int) (lo : Option D) (room : Nat) (T : D) (s7 sz s9 s10 s11 : Option D) (L d : D) (s14 s15 s16 s17 : Option D) : Dn.Env :=
  [sc, k, src, some (.int t), lo, some (.int (room : Nat)), some T, s7, sz, s9, s10, s11, some L, some d, s14, s15, s16, s17]
section
variable (sc k src : Option D) (t : Int) (lo : Option D) (room : Nat) (s7 sz s9 s10 s11 s14 s15 s16 s17 : Option D) {init : List Str} {l : List (Bool × Str)} {d : D}
theorem dec_row (hi : Shelf init) (hl : Log l) (hd : Tg d) : Dec 100000 7 (.lst [.tup (init.map D.str), .lst (evs l), d]) := by
  refine (dec_lst (w := 20000) (k := 6) fun x hx => ?_).mono (show 3 * (20000 + 1) ≤ 100000 by decide) (by decide)
  rcases List.mem_cons.mp hx with rfl | hx
  · refine (dec_tup (dec_strs hi.2.2)).mono ?_ (by decide)
    rw [List.length_map]
    have := hi.2.1
    omega
  · rcases List.mem_cons.mp hx with rfl | hx
    · refine (dec_lst (dec_evs hl.2)).mono ?_ (by decide)
      have : (evs l).length = l.length := by unfold evs; exact List.length_map ..
      have := hl.1
      omega
    · rw [List.mem_singleton.mp hx]
      exact hd.2.mono (by decide) (by decide)
theorem disp_ok (hi : Shelf init) (hl : Log l) (hd : Tg d) : ∃ x : Str, (dOp fReprX (dCons (dLst (dCons (dVar 6) (dCons (dVar 12) (dCons (dVar 13) dNil)))) dNil)) (EY sc k src t lo room (.tup (init.map D.str)) s7 sz s9 s10 s11 (.lst (evs l)) d s14 s15 s16 s17) = .ok (.str x) (EY sc k src t lo room (.tup (init.map D.str)) s7 sz s9 s10 s11 (.lst (evs l)) d s14 s15 s16 s17) ∧ x = (py (.lst [.tup (init.map D.str), .lst (evs l), d])).shown := by
  refine ⟨_, ?_, rfl⟩
  have dr := dec_row hi hl hd
  have t1 := tame (d := .tup (init.map D.str)) (by simpa using plain_strs init)
  have t2 := tame (d := .lst (evs l)) (by simpa using plain_evs l)
  have t3 := tame hd.1.plain
  have rp := fun env => rep_own (by simp [t1.1, t2.1, t3.1]) ((dr.mono (by decide) (by decide) : Dec 1000000 50 _).repr) env
  generalize D.tup (init.map D.str) = T at *
  generalize D.lst (evs l) = L at *
  generalize (py (.lst [T, L, d])).shown = X at *
  simp [EY, t1, t2, t3, ↓rp]
theorem rep_res (hr : room ≤ 40) (h : Ask (room : Nat) init l) (hl : l.length ≤ 200) (hd : Thg d) : ∃ X : Str, (∀ env, fReprX env [resD init (res room init l d)] = some (.str X)) ∧ (∀ (env : Dn.Env) (i : Nat), env[i]? = some (some (resD init (res room init l d))) → ((dOp fReprX (dCons (dVar i) dNil)) env = .ok (.str X) env)) ∧ noBor (resD init (res room init l d)) = true ∧ noLst (resD init (res room init l d)) = true := by
  cases e : res room init l d with
  | none =>
    refine ⟨_, fun env => rep_plain (d := .non) rfl (by decide +kernel) env, fun env i hi => ?_, rfl, rfl⟩
    have rp := rep_plain (d := .non) rfl (by decide +kernel) env
    have hi' : env[i]? = some (some D.non) := hi
    generalize (py D.non).shown = X at *
    simp [hi', ↓rp]
  | some C =>
    have e2 := e
    unfold res at e
    obtain ⟨g, _, e3⟩ := Option.bind_eq_some_iff.mp e
    have pg := fo_pages room l init g C h.shelf.2.2 h.log.2 e3
    obtain ⟨_, _, cl, cn⟩ := fo_needs room l 0 init g C h.shelf.1 (by have := h.fits; omega) e3
    have dc : Dec 1000000 50 (.lst (tpL (init :: C))) := by
      refine (dec_tpL (n := 40) fun c hc => ?_).mono ?_ (by decide)
      · rcases List.mem_cons.mp hc with rfl | hc
        · exact ⟨by have := h.fits; omega, h.shelf.2.2⟩
        · exact ⟨by have := (cn c hc).2; omega, pg c hc⟩
      · rw [List.length_cons, cl]; omega
    have pl := plain_tpL (init :: C)
    have nb := plainL_noBor _ pl
    have nl := noLst_tup (init :: C)
    refine ⟨_, fun env => rep_own pl dc.repr env, fun env i hi => ?_, by simpa [resD] using nb, by simpa [resD] using nl⟩
    have hi' : env[i]? = some (some (.own (tpL (init :: C)))) := hi
    have rp := rep_bor pl dc.repr env hi'
    generalize (py (.lst (tpL (init :: C)))).shown = X at *
    generalize tpL (init :: C) = TT at *
    simp [hi', ↓rp]
end
end Kx
namespace Kx
open PySem PySem.Spec L2 Dn
section
variable (sc k src : Option D) (t : Int) (lo : Option D) (room : Nat) (s7 sz s9 s10 s11 s13 s14 s15 s16 s17 : Option D) {init : List Str} {l : List (Bool × Str)} {d : D}
theorem yBody_ok (hr : room ≤ 40) (h : Ask (room : Nat) init l) (hl : l.length ≤ 200) (hd : Tg d) : ∃ z14 z15 : Option D, yBody (EY sc k src t lo room (.tup (init.map D.str)) s7 sz s9 s10 s11 (.lst (evs l)) d s14 s15 s16 s17) = .nx (EY sc k src t lo room (.tup (init.map D.str)) s7 sz s9 s10 s11 (.lst (evs l)) d z14 z15 s16 s17) := by
  have t1 := tame (d := .tup (init.map D.str)) (by simpa using plain_strs init)
  have t2 := tame (d := .lst (evs l)) (by simpa using plain_evs l)
  have t3 := tame hd.1.plain
  obtain ⟨x, q1, _⟩ := disp_ok sc k src t lo room s7 sz s9 s10 s11 s14 s15 s16 s17 h.shelf h.log hd
  obtain ⟨X, rX, rV, nR, lR⟩ := rep_res room hr h hl hd.1
  have td := told_ok (by omega) h hd.1 (t == 1)
  have fw := followed_ok (by omega) h hd.1
  have h1 : y1 (EY sc k src t lo room (.tup (init.map D.str)) s7 sz s9 s10 s11 (.lst (evs l)) d s14 s15 s16 s17) = .nx (EY sc k src t lo room (.tup (init.map D.str)) s7 sz s9 s10 s11 (.lst (evs l)) d (some (.str x)) s15 s16 s17) := by
    generalize D.tup (init.map D.str) = T at *
    generalize D.lst (evs l) = L at *
    have w : (EY sc k src t lo room T s7 sz s9 s10 s11 L d s14 s15 s16 s17).set 14 (some (.str x)) = EY sc k src t lo room T s7 sz s9 s10 s11 L d (some (.str x)) s15 s16 s17 := rfl
    have wl : (EY sc k src t lo room T s7 sz s9 s10 s11 L d s14 s15 s16 s17).length = 18 := rfl
    generalize EY sc k src t lo room T s7 sz s9 s10 s11 L d s14 s15 s16 s17 = E0 at *
    simp [y1, ↓q1, w, wl]
  have h2 : y2 (EY sc k src t lo room (.tup (init.map D.str)) s7 sz s9 s10 s11 (.lst (evs l)) d (some (.str x)) s15 s16 s17) = .nx (EY sc k src t lo room (.tup (init.map D.str)) s7 sz s9 s10 s11 (.lst (evs l)) d (some (.str x)) (some (resD init (res room init l d))) s16 s17) := by
    generalize D.tup (init.map D.str) = T at *
    generalize D.lst (evs l) = L at *
    generalize resD init (res room init l d) = R at *

    simp [y2, EY, t1, t2, t3, td, nR, lR]
  have q3 := rV (EY sc k src t lo room (.tup (init.map D.str)) s7 sz s9 s10 s11 (.lst (evs l)) d (some (.str x)) (some (resD init (res room init l d))) s16 s17) 15 rfl
  have q4 : (dOp fReprX (dCons (dCall f_l_followed (dCons (dVar 5) (dCons (dVar 6) (dCons (dVar 12) (dCons (dVar 13) dNil))))) dNil)) (EY sc k src t lo room (.tup (init.map D.str)) s7 sz s9 s10 s11 (.lst (evs l)) d (some (.str x)) (some (resD init (res room init l d))) s16 s17) = .ok (.str X) (EY sc k src t lo room (.tup (init.map D.str)) s7 sz s9 s10 s11 (.lst (evs l)) d (some (.str x)) (some (resD init (res room init l d))) s16 s17) := by
    generalize D.tup (init.map D.str) = T at *
    generalize D.lst (evs l) = L at *
    generalize resD init (res room init l d) = R at *
    simp [EY, t1, t2, t3, fw, nR, lR, ↓rX]
  have h3 : y3 (EY sc k src t lo room (.tup (init.map D.str)) s7 sz s9 s10 s11 (.lst (evs l)) d (some (.str x)) (some (resD init (res room init l d))) s16 s17) = .nx (EY sc k src t lo room (.tup (init.map D.str)) s7 sz s9 s10 s11 (.lst (evs l)) d (some (.str x)) (some (resD init (res room init l d))) s16 s17) := by
    generalize EY sc k src t lo room (.tup (init.map D.str)) s7 sz s9 s10 s11 (.lst (evs l)) d (some (.str x)) (some (resD init (res room init l d))) s16 s17 = E0 at *
    simp [y3, ↓q3, ↓q4]
  obtain ⟨x', q5, ex⟩ := disp_ok sc k src t lo room s7 sz s9 s10 s11 (some (.str x)) (some (resD init (res room init l d))) s16 s17 h.shelf h.log hd
  have exx : x' = x := by
    obtain ⟨x2, q6, ex2⟩ := disp_ok sc k src t lo room s7 sz s9 s10 s11 s14 s15 s16 s17 h.shelf h.log hd
    have := q1.symm.trans q6
    injection this with a
    injection a with a
    rw [a, ex, ex2]
  subst exx
  have h4 : y4 (EY sc k src t lo room (.tup (init.map D.str)) s7 sz s9 s10 s11 (.lst (evs l)) d (some (.str x')) (some (resD init (res room init l d))) s16 s17) = .nx (EY sc k src t lo room (.tup (init.map D.str)) s7 sz s9 s10 s11 (.lst (evs l)) d (some (.str x')) (some (resD init (res room init l d))) s16 s17) := by
    have v : dVar 14 (EY sc k src t lo room (.tup (init.map D.str)) s7 sz s9 s10 s11 (.lst (evs l)) d (some (.str x')) (some (resD init (res room init l d))) s16 s17) = .ok (.str x') (EY sc k src t lo room (.tup (init.map D.str)) s7 sz s9 s10 s11 (.lst (evs l)) d (some (.str x')) (some (resD init (res room init l d))) s16 s17) := by
      generalize D.tup (init.map D.str) = T at *
      generalize D.lst (evs l) = L at *
      generalize resD init (res room init l d) = R at *
      simp [EY]
    generalize EY sc k src t lo room (.tup (init.map D.str)) s7 sz s9 s10 s11 (.lst (evs l)) d (some (.str x')) (some (resD init (res room init l d))) s16 s17 = E0 at *
    simp [y4, ↓q5, ↓v]
  exact ⟨_, _, dSeq_nx h1 (dSeq_nx h2 (dSeq_nx h3 h4))⟩
abbrev EZ (s13 : Option D) : Dn.Env := [sc, k, src, some (.int t), lo, some (.int (room : Nat)), some (.tup (init.map D.str)), s7, sz, s9, s10, s11, some (.lst (evs l)), s13, s14, s15, s16, s17]
theorem things_ok (hr : room ≤ 40) (h : Ask (room : Nat) init l) (hl : l.length ≤ 200) : ∀ (ts : List D) (s13 s14 s15 : Option D), (∀ d ∈ ts, Tg d) →
    ∃ z13 z14 z15 : Option D, forL (gN 13) yBody ts [sc, k, src, some (.int t), lo, some (.int (room : Nat)), some (.tup (init.map D.str)), s7, sz, s9, s10, s11, some (.lst (evs l)), s13, s14, s15, s16, s17] = .nx [sc, k, src, some (.int t), lo, some (.int (room : Nat)), some (.tup (init.map D.str)), s7, sz, s9, s10, s11, some (.lst (evs l)), z13, z14, z15, s16, s17]
  | [], s13, s14, s15, _ => ⟨s13, s14, s15, rfl⟩
  | d :: ts, s13, s14, s15, hd => by
    have tg := hd d List.mem_cons_self
    obtain ⟨z14, z15, q⟩ := yBody_ok sc k src t lo room s7 sz s9 s10 s11 s14 s15 s16 s17 hr h hl tg
    obtain ⟨w13, w14, w15, i⟩ := things_ok hr h hl ts (some d) z14 z15 fun e he => hd e (List.mem_cons_of_mem _ he)
    refine ⟨w13, w14, w15, forL_step ?_ q i⟩
    have t1 := tame (d := .tup (init.map D.str)) (by simpa using plain_strs init)
    generalize D.tup (init.map D.str) = T at *
    generalize D.lst (evs l) = L at *
    simp [EY]
end
end Kx
namespace Kx
open PySem PySem.Spec L2 Dn
abbrev innE : Dn.Env → Out D := (plus (dLst (dCons (dVar 10) dNil)) (dCallM f_l_changed (dCons (dVar 2) (dCons (dVar 10) (dCons (dVar 7) dNil)))))
abbrev INN : Dn.Env → SOut := (dFor (dItems innE) (gN 13) yBody)
theorem tg_list {G : List Str} (h : ∀ x ∈ G, pageB x = true) (hl : G.length ≤ 500) : Tg (.lst (G.map D.str)) := tg_lst (pg_strs h).itm (by rw [List.length_map]; exact hl)
theorem plain_tgs : ∀ {ts : List D}, (∀ t ∈ ts, Tg t) → plainL ts = true
  | [], _ => rfl
  | t :: ts, h => by rw [plainL_cons, (h t List.mem_cons_self).1.plain, plain_tgs fun e he => h e (List.mem_cons_of_mem _ he)]; rfl
theorem inn_ok {n : Nat} {xs : List D} (sc k : Option D) (t : Int) (lo : Option D) (room : Nat) (sz s9 s11 s13 s14 s15 s16 s17 : Option D) {init pages G : List Str} {l : List (Bool × Str)} (P7 : D) (h7 : P7 = .own (pages.map D.str) ∨ P7 = .lst (pages.map D.str))
    (hr : room ≤ 40) (h : Ask (room : Nat) init l) (hl : l.length ≤ 200) (hG : ∀ x ∈ G, pageB x = true) (hGl : G.length ≤ 200) (hp : ∀ x ∈ pages, pageB x = true) (hp0 : 0 < pages.length) (hpl : pages.length ≤ 1000) (s : Sr (n + 2) (.own xs)) :
    ∃ (xs' : List D) (Q7 : D) (z13 z14 z15 : Option D), INN [sc, k, some (.own xs), some (.int t), lo, some (.int (room : Nat)), some (.tup (init.map D.str)), some P7, sz, s9, some (.lst (G.map D.str)), s11, some (.lst (evs l)), s13, s14, s15, s16, s17] =
      .nx [sc, k, some (.own xs'), some (.int t), lo, some (.int (room : Nat)), some (.tup (init.map D.str)), some Q7, sz, s9, some (.lst (G.map D.str)), s11, some (.lst (evs l)), z13, z14, z15, s16, s17] ∧ Sr n (.own xs') ∧ (Q7 = .own (pages.map D.str) ∨ Q7 = .lst (pages.map D.str)) := by
  obtain ⟨ts, x1, q, s1, ht, hlen⟩ := changed_ok hG hGl hp hp0 hpl s
  obtain ⟨_, e9, nb1, _, nl1, _⟩ := s1.own
  cases e9
  have pt := plain_tgs ht
  have nt := plainL_noBor _ pt
  have ft := frzL_plain _ pt
  have bt := (ps_of pt).br
  have pG := plain_strs G
  have nG := noBor_strs G
  have pP := plain_strs pages
  have nP := noBor_strs pages
  have fP := frzL_plain _ pP
  have hT : ∀ d ∈ D.lst (G.map D.str) :: ts, Tg d := fun d hd => by
    rcases List.mem_cons.mp hd with rfl | hd
    · exact tg_list hG (by omega)
    · exact ht d hd
  have pA := plain_tgs hT
  have nA := plainL_noBor _ pA
  have fA := frzL_plain _ pA
  have e : ∃ Q7, (Q7 = .own (pages.map D.str) ∨ Q7 = .lst (pages.map D.str)) ∧ dItems innE [sc, k, some (.own xs), some (.int t), lo, some (.int (room : Nat)), some (.tup (init.map D.str)), some P7, sz, s9, some (.lst (G.map D.str)), s11, some (.lst (evs l)), s13, s14, s15, s16, s17] = .ok (.lst (G.map D.str) :: ts) [sc, k, some (.own x1), some (.int t), lo, some (.int (room : Nat)), some (.tup (init.map D.str)), some Q7, sz, s9, some (.lst (G.map D.str)), s11, some (.lst (evs l)), s13, s14, s15, s16, s17] := by
    have af : ∀ env, opF1 fAdd [.own [.lst (G.map D.str)], .own ts] env (fAdd env [.own [.lst (G.map D.str)], .own ts]) = .ok (.own (.lst (G.map D.str) :: ts)) env := fun env => by
      have bG := (ps_of pG).br
      have a := addF env [.lst (G.map D.str)] ts (by simpa using nG) nt (by simpa using bG) bt (by rw [hlen]; show 1 + 13 ≤ sizeLine; decide)
      rw [ft] at a
      have f1 : frzL [D.lst (G.map D.str)] = [.lst (G.map D.str)] := by simp [frzL_plain _ pG]
      rw [f1] at a
      exact a
    generalize D.tup (init.map D.str) = T at *
    generalize evs l = L at *
    generalize G.map D.str = GG at *
    generalize pages.map D.str = P at *
    have bG := (ps_of pG).br
    have bP := (ps_of pP).br
    have fG := (ps_of pG).fz
    have sG : ∀ e, subL e GG = GG := fun e => subL_id GG nG
    have sP : ∀ e, subL e P = P := fun e => subL_id P nP
    cases hb : noLstL ts with
    | true =>
      refine ⟨P7, h7, ?_⟩
      rcases h7 with rfl | rfl
      · simp [innE, plus, pG, nb1, nl1, nP, fP, q, hb, nt, ↓af, nA, fA, pA, nG, sG, sP, bG, bP, fG]
      · simp [innE, plus, pG, nb1, nl1, nP, fP, pP, q, hb, nt, ↓af, nA, fA, pA, nG, sG, sP, bG, bP, fG]
    | false =>
      refine ⟨.lst P, .inr rfl, ?_⟩
      rcases h7 with rfl | rfl
      · simp [innE, plus, pG, nb1, nl1, nP, fP, q, hb, nt, ↓af, nA, fA, pA, nG, sG, sP, bG, bP, fG, back, frzAt]
      · simp [innE, plus, pG, nb1, nl1, nP, fP, pP, q, hb, nt, ↓af, nA, fA, pA, nG, sG, sP, bG, bP, fG]
  obtain ⟨Q7, hQ, e⟩ := e
  obtain ⟨z13, z14, z15, i⟩ := things_ok sc k (some (.own x1)) t lo room (some Q7) sz s9 (some (.lst (G.map D.str))) s11 s16 s17 hr h hl (.lst (G.map D.str) :: ts) s13 s14 s15 hT
  refine ⟨x1, Q7, z13, z14, z15, ?_, s1, hQ⟩
  show dFor (dItems innE) (gN 13) yBody _ = _
  rw [z_for, e, z_fo, if_pos pA]
  exact i
end Kx
namespace Kx
open PySem PySem.Spec L2 Dn
abbrev rowE : Dn.Env → Out D := (dLst (dCons (dVar 9) (dCons (dCallM f_l_bent (dCons (dVar 2) (dCons (dVar 9) dNil))) dNil)))
abbrev ROWS : Dn.Env → SOut := (dFor (dItems rowE) (gN 12) INN)
abbrev T5 : Dn.Env → SOut := dThaw 9 (dThaw 10 ROWS)
theorem rows_ok {n : Nat} {xs : List D} (sc k : Option D) (t : Int) (lo : Option D) (room : Nat) (sz s11 s12 s13 s14 s15 s16 s17 : Option D) {init pages G : List Str} {l : List (Bool × Str)}
    (hr : room ≤ 40) (h : Ask (room : Nat) init l) (hl : l.length ≤ 150) (hG : ∀ x ∈ G, pageB x = true) (hGl : G.length ≤ 200) (hp : ∀ x ∈ pages, pageB x = true) (hp0 : 0 < pages.length) (hpl : pages.length ≤ 1000) (s : Sr (n + 5) (.own xs)) :
    ∃ (xs' : List D) (Q7 : D) (z12 z13 z14 z15 : Option D), ROWS [sc, k, some (.own xs), some (.int t), lo, some (.int (room : Nat)), some (.tup (init.map D.str)), some (.own (pages.map D.str)), sz, some (.lst (evs l)), some (.lst (G.map D.str)), s11, s12, s13, s14, s15, s16, s17] =
      .nx [sc, k, some (.own xs'), some (.int t), lo, some (.int (room : Nat)), some (.tup (init.map D.str)), some Q7, sz, some (.lst (evs l)), some (.lst (G.map D.str)), s11, z12, z13, z14, z15, s16, s17] ∧ Sr n (.own xs') := by
  obtain ⟨l', x1, q, s1, hl', hlen⟩ := bent_ok (n := n + 4) h.log (s.mono (by omega))
  have h' : Ask (room : Nat) init l' := ⟨h.ge, h.shelf, h.fits, hl'⟩
  obtain ⟨_, e9, nb1, _, nl1, _⟩ := s1.own
  cases e9
  have e : dItems rowE [sc, k, some (.own xs), some (.int t), lo, some (.int (room : Nat)), some (.tup (init.map D.str)), some (.own (pages.map D.str)), sz, some (.lst (evs l)), some (.lst (G.map D.str)), s11, s12, s13, s14, s15, s16, s17] = .ok [.lst (evs l), .lst (evs l')] [sc, k, some (.own x1), some (.int t), lo, some (.int (room : Nat)), some (.tup (init.map D.str)), some (.own (pages.map D.str)), sz, some (.lst (evs l)), some (.lst (G.map D.str)), s11, s12, s13, s14, s15, s16, s17] := by
    have p1 := plain_evs l
    have p2 := plain_evs l'
    have n1 := noBor_evs l
    have n2 := noBor_evs l'
    have f1 := frzL_plain _ p1
    have f2 := frzL_plain _ p2
    have b1 := (ps_of p1).br
    have m2 := noLst_evs l'
    have sG : ∀ e, subL e (evs l) = evs l := fun e => subL_id _ n1
    generalize D.tup (init.map D.str) = T at *
    generalize evs l = L at *
    generalize evs l' = L' at *
    generalize G.map D.str = GG at *
    generalize pages.map D.str = P at *
    simp [rowE, p1, p2, n1, n2, f1, f2, b1, m2, sG, q, nb1, nl1]
  have pp : plainL [D.lst (evs l), .lst (evs l')] = true := by simp [plain_evs]
  obtain ⟨x2, Q1, z13, z14, z15, i1, s2, hQ1⟩ := inn_ok (n := n + 2) sc k t lo room sz (some (.lst (evs l))) s11 s13 s14 s15 s16 s17 (.own (pages.map D.str)) (.inl rfl) hr h (by omega) hG hGl hp hp0 hpl s1
  obtain ⟨x3, Q2, w13, w14, w15, i2, s3, hQ2⟩ := inn_ok (n := n) sc k t lo room sz (some (.lst (evs l))) s11 z13 z14 z15 s16 s17 Q1 hQ1 hr h' (by omega) hG hGl hp hp0 hpl s2
  refine ⟨x3, Q2, some (.lst (evs l')), w13, w14, w15, ?_, s3⟩
  show dFor (dItems rowE) (gN 12) INN _ = _
  rw [z_for, e, z_fo, if_pos pp]
  have g12 : ∀ (L : D) (x : List D) (a7 a12 a13 a14 a15 : Option D), gN 12 L [sc, k, some (.own x), some (.int t), lo, some (.int (room : Nat)), some (.tup (init.map D.str)), a7, sz, some (.lst (evs l)), some (.lst (G.map D.str)), s11, a12, a13, a14, a15, s16, s17] = some [sc, k, some (.own x), some (.int t), lo, some (.int (room : Nat)), some (.tup (init.map D.str)), a7, sz, some (.lst (evs l)), some (.lst (G.map D.str)), s11, some L, a13, a14, a15, s16, s17] := fun L x a7 a12 a13 a14 a15 => by
    generalize D.tup (init.map D.str) = T at *
    generalize evs l = LL at *
    generalize G.map D.str = GG at *
    simp
  refine forL_step (g12 _ _ _ _ _ _ _) i1 (forL_step (g12 _ _ _ _ _ _ _) i2 ?_)
  rfl
theorem t5_ok {n : Nat} {xs : List D} (S0 : D) (hs0 : noLst S0 = true) (k t : Int) (lo : Option D) (room : Nat) (sz : Option D) (s11 s12 s13 s14 s15 s16 s17 : Option D) {init pages G : List Str} {l : List (Bool × Str)}
    (hr : room ≤ 40) (h : Ask (room : Nat) init l) (hl : l.length ≤ 150) (hG : ∀ x ∈ G, pageB x = true) (hGl : G.length ≤ 200) (hp : ∀ x ∈ pages, pageB x = true) (hp0 : 0 < pages.length) (hpl : pages.length ≤ 1000) (s : Sr (n + 5) (.own xs)) :
    ∃ (xs' : List D) (z4 z7 z8 z11 z12 z13 z14 z15 z16 z17 : Option D), T5 [some S0, some (.int k), some (.own xs), some (.int t), lo, some (.int (room : Nat)), some (.tup (init.map D.str)), some (.own (pages.map D.str)), sz, some (.own (evs l)), some (.own (G.map D.str)), s11, s12, s13, s14, s15, s16, s17] =
      .nx [some S0, some (.int k), some (.own xs'), some (.int t), z4, some (.int (room : Nat)), some (.tup (init.map D.str)), z7, z8, some (.own (evs l)), some (.own (G.map D.str)), z11, z12, z13, z14, z15, z16, z17] ∧ Sr n (.own xs') := by
  obtain ⟨x1, Q7, z12, z13, z14, z15, q, s1⟩ := rows_ok (n := n) (some S0) (some (.int k)) t lo room sz s11 s12 s13 s14 s15 s16 s17 hr h hl hG hGl hp hp0 hpl s
  obtain ⟨_, e9, nb1, _, nl1, _⟩ := s1.own
  cases e9
  have p1 := plain_evs l
  have f1 := frzL_plain _ p1
  have m1 := noLst_evs l
  have p2 := plain_strs G
  have f2 := frzL_plain _ p2
  have m2 := noLst_strs G
  have mT : noLst (.tup (init.map D.str)) = true := by simpa using noLst_strs init
  refine ⟨x1, dropLst (dropLst lo), dropLst (dropLst (some Q7)), dropLst (dropLst sz), dropLst (dropLst s11), dropLst (dropLst z12), dropLst (dropLst z13), dropLst (dropLst z14), dropLst (dropLst z15), dropLst (dropLst s16), dropLst (dropLst s17), ?_, s1⟩
  generalize D.tup (init.map D.str) = T at *
  generalize evs l = L at *
  generalize G.map D.str = GG at *
  generalize pages.map D.str = P at *
  have d0 : dropLst (some S0) = some S0 := by unfold dropLst; simp [hs0]
  have di : ∀ i, dropLst (some (.int i)) = some (.int i) := fun i => rfl
  have dx : dropLst (some (.own x1)) = some (.own x1) := by unfold dropLst; simp [nl1]
  have dT : dropLst (some T) = some T := by unfold dropLst; simp [mT]
  have dG : dropLst (some (.own GG)) = some (.own GG) := by unfold dropLst; simp [m2]
  have in1 := dThaw_nx (i := 10) (f := ROWS) (env := [some S0, some (.int k), some (.own xs), some (.int t), lo, some (.int (room : Nat)), some T, some (.own P), sz, some (.lst L), some (.own GG), s11, s12, s13, s14, s15, s16, s17]) rfl p2 m2 (by
    have : frzAt [some S0, some (.int k), some (.own xs), some (.int t), lo, some (.int (room : Nat)), some T, some (.own P), sz, some (.lst L), some (.own GG), s11, s12, s13, s14, s15, s16, s17] 10 = [some S0, some (.int k), some (.own xs), some (.int t), lo, some (.int (room : Nat)), some T, some (.own P), sz, some (.lst L), some (.lst GG), s11, s12, s13, s14, s15, s16, s17] := by
      show [some S0, some (.int k), some (.own xs), some (.int t), lo, some (.int (room : Nat)), some T, some (.own P), sz, some (.lst L), some (.lst (frzL GG)), s11, s12, s13, s14, s15, s16, s17] = _
      rw [f2]
    rw [this]
    exact q)
  have in2 := dThaw_nx (i := 9) (f := dThaw 10 ROWS) (env := [some S0, some (.int k), some (.own xs), some (.int t), lo, some (.int (room : Nat)), some T, some (.own P), sz, some (.own L), some (.own GG), s11, s12, s13, s14, s15, s16, s17]) rfl p1 m1 (by
    have : frzAt [some S0, some (.int k), some (.own xs), some (.int t), lo, some (.int (room : Nat)), some T, some (.own P), sz, some (.own L), some (.own GG), s11, s12, s13, s14, s15, s16, s17] 9 = [some S0, some (.int k), some (.own xs), some (.int t), lo, some (.int (room : Nat)), some T, some (.own P), sz, some (.lst L), some (.own GG), s11, s12, s13, s14, s15, s16, s17] := by
      show [some S0, some (.int k), some (.own xs), some (.int t), lo, some (.int (room : Nat)), some T, some (.own P), sz, some (.lst (frzL L)), some (.own GG), s11, s12, s13, s14, s15, s16, s17] = _
      rw [f1]
    rw [this]
    exact in1)
  refine in2.trans ?_
  simp [thawE, d0, di, dx, dT, dG]
end Kx
namespace Kx
open PySem PySem.Spec L2 Dn
theorem frz_conts (C : List (List Str)) : frzL (conts C) = lstC C := by
  unfold conts lstC
  induction C with
  | nil => rfl
  | cons c C ih =>
    rw [List.map_cons, List.map_cons, frzL, ih]
    congr 1
    simp [frzL_plain _ (plain_strs c)]
abbrev toE : Dn.Env → Out D := (dCall f_l_told (dCons (dVar 5) (dCons (dVar 6) (dCons (dVar 9) (dCons (dVar 10) (dCons (dC (.bl false)) dNil))))))
abbrev ctE : Dn.Env → Out D := (dLc (dItems (dVar 11)) (gN 17) (fun env => .ok true env) (dOp fTupOf (dCons (dOp fSortedA (dCons (dVar 17) dNil)) dNil)) [17])
abbrev T4 : Dn.Env → SOut := (dIfS (dB (dOp fNe (dCons toE (dCons ctE dNil)))) (dRet (dC (.bl false))) dSkip)
abbrev rpE : Dn.Env → Out D := (dCall f_replay (dCons (dVar 5) (dCons (dVar 6) (dCons (dVar 9) (dCons (dVar 10) dNil)))))
abbrev T6 : Dn.Env → SOut := (dSet 16 rpE)
abbrev T7 : Dn.Env → SOut := (dExpr (dMut 16 mAppend (dCons (dTup dNil) dNil)))
abbrev T8 : Dn.Env → SOut := (dIfS (dB (dOp fNe (dCons rpE (dCons (dSl (dVar 16) dNoP (dPart (dOp fNeg (dCons (dC (.int 1)) dNil)))) dNil)))) (dRet (dC (.bl false))) dSkip)
abbrev T9 : Dn.Env → SOut := (dExpr (dMut 10 mAppend (dCons (dC (.str "a")) dNil)))
abbrev T10 : Dn.Env → SOut := (dIfS (dB (dOp fNotN (dCons toE (dCons (dC .non) dNil)))) (dRet (dC (.bl false))) dSkip)
section
variable (a0 a1 a2 a3 a4 a7 a8 a11 a12 a13 a14 a15 a16 a17 : Option D) (room : Nat) {init G : List Str} {l : List (Bool × Str)}
abbrev ET (T : D) (L GG : List D) : Dn.Env := [a0, a1, a2, a3, a4, some (.int (room : Nat)), some T, a7, a8, some (.own L), some (.own GG), a11, a12, a13, a14, a15, a16, a17]
theorem toE_ok (hr : room ≤ 1000) (h : Ask (room : Nat) init l) (hd : Thg (.lst (G.map D.str))) : toE (ET a0 a1 a2 a3 a4 a7 a8 a11 a12 a13 a14 a15 a16 a17 room (.tup (init.map D.str)) (evs l) (G.map D.str)) = .ok (resD init (res room init l (.lst (G.map D.str)))) (ET a0 a1 a2 a3 a4 a7 a8 a11 a12 a13 a14 a15 a16 a17 room (.tup (init.map D.str)) (evs l) (G.map D.str)) := by
  have td := told_ok hr h hd false
  have t1 := tame (d := .tup (init.map D.str)) (by simpa using plain_strs init)
  have n1 := noBor_evs l
  have n2 := noBor_strs G
  have f1 := frzL_plain _ (plain_evs l)
  have f2 := frzL_plain _ (plain_strs G)
  have nl : noLst (resD init (res room init l (.lst (G.map D.str)))) = true := by
    cases res room init l (.lst (G.map D.str)) with
    | none => rfl
    | some C => simpa [resD] using noLst_tup (init :: C)
  generalize resD init (res room init l (.lst (G.map D.str))) = R at *
  generalize D.tup (init.map D.str) = T at *
  generalize evs l = L at *
  generalize G.map D.str = GG at *
  simp [toE, ET, t1, n1, n2, f1, f2, td, nl]
theorem rpE_ok {C : List (List Str)} (hr : room ≤ 1000) (h : Ask (room : Nat) init l) (hd : Thg (.lst (G.map D.str))) (e : res room init l (.lst (G.map D.str)) = some C) : rpE (ET a0 a1 a2 a3 a4 a7 a8 a11 a12 a13 a14 a15 a16 a17 room (.tup (init.map D.str)) (evs l) (G.map D.str)) = .ok (.own (tpL (init :: C))) (ET a0 a1 a2 a3 a4 a7 a8 a11 a12 a13 a14 a15 a16 a17 room (.tup (init.map D.str)) (evs l) (G.map D.str)) := by
  have rp := replay_ok hr h hd
  rw [e] at rp
  simp only at rp
  have t1 := tame (d := .tup (init.map D.str)) (by simpa using plain_strs init)
  have n1 := noBor_evs l
  have n2 := noBor_strs G
  have f1 := frzL_plain _ (plain_evs l)
  have f2 := frzL_plain _ (plain_strs G)
  have nl := noLst_tup (init :: C)
  generalize tpL (init :: C) = R at *
  generalize D.tup (init.map D.str) = T at *
  generalize evs l = L at *
  generalize G.map D.str = GG at *
  simp [rpE, ET, t1, n1, n2, f1, f2, rp, nl]
theorem ctE_ok {C : List (List Str)} (T : D) (L GG : List D) (hC : C.length ≤ 1000) (pg : ∀ c ∈ C, ∀ x ∈ c, pageB x = true) : ctE (ET a0 a1 a2 a3 a4 a7 a8 (some (.own (conts C))) a12 a13 a14 a15 a16 a17 room T L GG) = .ok (.own (tpL C)) (ET a0 a1 a2 a3 a4 a7 a8 (some (.lst (lstC C))) a12 a13 a14 a15 a16 none room T L GG) := by
  have nb := noBor_conts C
  have fz := frz_conts C
  have pl := plain_lstC C
  obtain ⟨e, q, w⟩ := lc_map (t := gN 17) (g := (dOp fTupOf (dCons (dOp fSortedA (dCons (dVar 17) dNil)) dNil))) (own := [17]) (W := ET a0 a1 a2 a3 a4 a7 a8 (some (.lst (lstC C))) a12 a13 a14 a15 a16 none room T L GG) (fun d => match d with
    | .lst c => .tup (srtD c)
    | d => d) (lstC C) (ET a0 a1 a2 a3 a4 a7 a8 (some (.lst (lstC C))) a12 a13 a14 a15 a16 a17 room T L GG) rfl
    (by unfold lstC; rw [List.length_map]; have := z_size; omega) (fun z hz => by
      unfold lstC at hz
      obtain ⟨c, hc, rfl⟩ := List.mem_map.mp hz
      have tc := tame (d := .lst (c.map D.str)) (by simpa using plain_strs c)
      have so : ∀ env, fSortedA env [.lst (c.map D.str)] = some (.own ((srtS c).map D.str)) := fun env => sorted_ok env _ c (pg c hc) rfl
      have ts : ∀ env, fTupOf env [.own ((srtS c).map D.str)] = some (.tup ((srtS c).map D.str)) := fun env => tup_step env (srtS c)
      have nt : noBor (.tup ((srtS c).map D.str)) = true := by simpa using noBor_strs (srtS c)
      have nt2 := noBor_strs (srtS c)
      generalize lstC C = CC at *
      simp only
      rw [srtD_strs]
      generalize (srtS c).map D.str = S at *
      generalize D.lst (c.map D.str) = X at *
      refine ⟨ET a0 a1 a2 a3 a4 a7 a8 (some (.lst CC)) a12 a13 a14 a15 a16 (some X) room T L GG, by simp [ET], ET a0 a1 a2 a3 a4 a7 a8 (some (.lst CC)) a12 a13 a14 a15 a16 (some X) room T L GG, ?_, nt, rfl, rfl⟩
      simp [ET, tc, ↓so, ↓ts, nt2])
  have e2 : ((lstC C).map fun d => frz ((fun d => match d with
    | .lst c => .tup (srtD c)
    | d => d) d)) = tpL C := by
    unfold lstC tpL
    rw [List.map_map]
    refine List.map_congr_left fun c _ => ?_
    show frz (.tup (srtD (c.map D.str))) = tpC c
    rw [srtD_strs]
    exact frz_plain _ (plain_tpC c)
  rw [e2] at q
  generalize conts C = CO at *
  generalize lstC C = CC at *
  generalize tpL C = TT at *
  have mb : ∀ e, mv (.bor 11) e = mbO (.bor 11) (frzAt e 11) := fun e => z_mvb e (.bor 11) rfl
  have di : dItems (dVar 11) (ET a0 a1 a2 a3 a4 a7 a8 (some (.own CO)) a12 a13 a14 a15 a16 a17 room T L GG) = .ok CC (ET a0 a1 a2 a3 a4 a7 a8 (some (.lst CC)) a12 a13 a14 a15 a16 a17 room T L GG) := by
    have nb2 := plainL_noBor _ pl
    have fz2 := frzL_plain _ pl
    simp [ET, ↓mb, frzAt, mbO, nb, nb2, fz, fz2, pl]
  generalize ET a0 a1 a2 a3 a4 a7 a8 (some (.lst CC)) a12 a13 a14 a15 a16 a17 room T L GG = E1 at *
  generalize ET a0 a1 a2 a3 a4 a7 a8 (some (.own CO)) a12 a13 a14 a15 a16 a17 room T L GG = E0 at *
  simp [ctE, ↓di, pl, q, w]
theorem t4_ok {C : List (List Str)} (hr : room ≤ 1000) (h : Ask (room : Nat) init l) (hd : Thg (.lst (G.map D.str))) (e : res room init l (.lst (G.map D.str)) = some C) (hC : C.length ≤ 500) (pg : ∀ c ∈ init :: C, ∀ x ∈ c, pageB x = true) :
    T4 (ET a0 a1 a2 a3 a4 a7 a8 (some (.own (conts (init :: C)))) a12 a13 a14 a15 a16 a17 room (.tup (init.map D.str)) (evs l) (G.map D.str)) = .nx (ET a0 a1 a2 a3 a4 a7 a8 (some (.lst (lstC (init :: C)))) a12 a13 a14 a15 a16 none room (.tup (init.map D.str)) (evs l) (G.map D.str)) := by
  have q1 := toE_ok a0 a1 a2 a3 a4 a7 a8 (some (.own (conts (init :: C)))) a12 a13 a14 a15 a16 a17 room hr h hd
  rw [e] at q1
  have q2 := ctE_ok a0 a1 a2 a3 a4 a7 a8 a12 a13 a14 a15 a16 a17 room (C := init :: C) (.tup (init.map D.str)) (evs l) (G.map D.str) (by rw [List.length_cons]; omega) pg
  have sm := (tp_same pg).1
  have q1' : toE _ = .ok (.own (tpL (init :: C))) _ := q1
  have nb := plainL_noBor _ (plain_tpL (init :: C))
  generalize tpL (init :: C) = TT at *
  have sb : ∀ e, sub e (.own TT) = .own TT := fun e => sub_id _ (by simpa using nb)
  generalize ET a0 a1 a2 a3 a4 a7 a8 (some (.lst (lstC (init :: C)))) a12 a13 a14 a15 a16 none room (.tup (init.map D.str)) (evs l) (G.map D.str) = E1 at *
  generalize ET a0 a1 a2 a3 a4 a7 a8 (some (.own (conts (init :: C)))) a12 a13 a14 a15 a16 a17 room (.tup (init.map D.str)) (evs l) (G.map D.str) = E0 at *
  simp [T4, ↓q1', ↓q2, sm, ↓sb]
theorem t6_ok {C : List (List Str)} (hr : room ≤ 1000) (h : Ask (room : Nat) init l) (hd : Thg (.lst (G.map D.str))) (e : res room init l (.lst (G.map D.str)) = some C) :
    T6 (ET a0 a1 a2 a3 a4 a7 a8 a11 a12 a13 a14 a15 a16 a17 room (.tup (init.map D.str)) (evs l) (G.map D.str)) = .nx (ET a0 a1 a2 a3 a4 a7 a8 a11 a12 a13 a14 a15 (some (.own (tpL (init :: C)))) a17 room (.tup (init.map D.str)) (evs l) (G.map D.str)) := by
  have q := rpE_ok a0 a1 a2 a3 a4 a7 a8 a11 a12 a13 a14 a15 a16 a17 room hr h hd e
  have nb := plainL_noBor _ (plain_tpL (init :: C))
  generalize tpL (init :: C) = TT at *
  generalize D.tup (init.map D.str) = T at *
  generalize evs l = L at *
  generalize G.map D.str = GG at *
  have w : ∀ z, (ET a0 a1 a2 a3 a4 a7 a8 a11 a12 a13 a14 a15 a16 a17 room T L GG).set 16 z = ET a0 a1 a2 a3 a4 a7 a8 a11 a12 a13 a14 a15 z a17 room T L GG := fun z => rfl
  have wl : (ET a0 a1 a2 a3 a4 a7 a8 a11 a12 a13 a14 a15 a16 a17 room T L GG).length = 18 := rfl
  generalize ET a0 a1 a2 a3 a4 a7 a8 a11 a12 a13 a14 a15 a16 a17 room T L GG = E0 at *
  simp [T6, ↓q, nb, w, wl]
theorem t7_ok (T : D) (L GG TT : List D) (pT : plainL TT = true) (hT : TT.length ≤ 1000) : T7 (ET a0 a1 a2 a3 a4 a7 a8 a11 a12 a13 a14 a15 (some (.own TT)) a17 room T L GG) = .nx (ET a0 a1 a2 a3 a4 a7 a8 a11 a12 a13 a14 a15 (some (.own (TT ++ [.tup []]))) a17 room T L GG) := by
  have nb := plainL_noBor _ pT
  have n2 : noBorL (TT ++ [.tup []]) = true := noBor_app nb (by simp)
  have l1 : TT.length < 16777216 := by omega
  simp [T7, ET, nb, n2, l1]
theorem cut_m1 (TT : List D) (d : D) : cutD (TT ++ [d]) none (some (-1)) = TT := by
  unfold cutD
  have e1 : HT.sIx (TT ++ [d]).length 0 none = 0 := rfl
  have e2 : HT.sIx (TT ++ [d]).length (TT ++ [d]).length (some (-1)) = TT.length := by
    unfold HT.sIx
    simp
    omega
  rw [e1, e2]
  simp
theorem t8_ok {C : List (List Str)} (hr : room ≤ 1000) (h : Ask (room : Nat) init l) (hd : Thg (.lst (G.map D.str))) (e : res room init l (.lst (G.map D.str)) = some C) (pg : ∀ c ∈ init :: C, ∀ x ∈ c, pageB x = true) :
    T8 (ET a0 a1 a2 a3 a4 a7 a8 a11 a12 a13 a14 a15 (some (.own (tpL (init :: C) ++ [.tup []]))) a17 room (.tup (init.map D.str)) (evs l) (G.map D.str)) = .nx (ET a0 a1 a2 a3 a4 a7 a8 a11 a12 a13 a14 a15 (some (.own (tpL (init :: C) ++ [.tup []]))) a17 room (.tup (init.map D.str)) (evs l) (G.map D.str)) := by
  have q := rpE_ok a0 a1 a2 a3 a4 a7 a8 a11 a12 a13 a14 a15 (some (.own (tpL (init :: C) ++ [.tup []]))) a17 room hr h hd e
  have pT := plain_tpL (init :: C)
  have nb := plainL_noBor _ pT
  have sm := (tp_same pg).1
  generalize tpL (init :: C) = TT at *
  have p2 : plainL (TT ++ [.tup []]) = true := by rw [plainL_append, pT]; rfl
  have cu := cut_m1 TT (.tup [])
  have sb : ∀ e, sub e (.own TT) = .own TT := fun e => sub_id _ (by simpa using nb)
  generalize D.tup (init.map D.str) = T at *
  generalize evs l = L at *
  generalize G.map D.str = GG at *
  have sl : (dSl (dVar 16) dNoP (dPart (dOp fNeg (dCons (dC (.int 1)) dNil)))) (ET a0 a1 a2 a3 a4 a7 a8 a11 a12 a13 a14 a15 (some (.own (TT ++ [.tup []]))) a17 room T L GG) = .ok (.own TT) (ET a0 a1 a2 a3 a4 a7 a8 a11 a12 a13 a14 a15 (some (.own (TT ++ [.tup []]))) a17 room T L GG) := by
    generalize TT ++ [.tup []] = T2 at *
    simp [ET, p2, cu]
  generalize ET a0 a1 a2 a3 a4 a7 a8 a11 a12 a13 a14 a15 (some (.own (TT ++ [.tup []]))) a17 room T L GG = E0 at *
  simp [T8, ↓q, ↓sl, sm, ↓sb]
theorem t9_ok (T : D) (L : List D) (hG : G.length ≤ 1000) : T9 (ET a0 a1 a2 a3 a4 a7 a8 a11 a12 a13 a14 a15 a16 a17 room T L (G.map D.str)) = .nx (ET a0 a1 a2 a3 a4 a7 a8 a11 a12 a13 a14 a15 a16 a17 room T L ((G ++ [("a" : Str)]).map D.str)) := by
  have nb := noBor_strs G
  have n2 := noBor_strs (G ++ [("a" : Str)])
  have l1 : (G.map D.str).length < 16777216 := by rw [List.length_map]; omega
  rw [List.map_append] at n2 ⊢
  generalize G.map D.str = GG at *
  simp only [List.map_cons, List.map_nil] at n2 ⊢
  simp [T9, ET, nb, n2, l1]
theorem t10_ok (hr : room ≤ 1000) (h : Ask (room : Nat) init l) (hd : Thg (.lst (G.map D.str))) (e : res room init l (.lst (G.map D.str)) = none) :
    T10 (ET a0 a1 a2 a3 a4 a7 a8 a11 a12 a13 a14 a15 a16 a17 room (.tup (init.map D.str)) (evs l) (G.map D.str)) = .nx (ET a0 a1 a2 a3 a4 a7 a8 a11 a12 a13 a14 a15 a16 a17 room (.tup (init.map D.str)) (evs l) (G.map D.str)) := by
  have q1 := toE_ok a0 a1 a2 a3 a4 a7 a8 a11 a12 a13 a14 a15 a16 a17 room hr h hd
  rw [e] at q1
  have q1' : toE _ = .ok .non _ := q1
  generalize ET a0 a1 a2 a3 a4 a7 a8 a11 a12 a13 a14 a15 a16 a17 room (.tup (init.map D.str)) (evs l) (G.map D.str) = E0 at *
  simp [T10, ↓q1', fNotN, isNonD]
end
end Kx
namespace Kx
open PySem PySem.Spec L2 Dn
abbrev turnL : Dn.Env → SOut := dSeq T1 (dSeq T2 (dSeq T3 (dSeq T4 (dSeq T5 (dSeq T6 (dSeq T7 (dSeq T8 (dSeq T9 T10))))))))
theorem turnL_ok {n : Nat} {xs : List D} (S0 : D) (hs0 : noLst S0 = true) (k t : Int) (a4 a5 a6 a7 a8 a9 a10 a11 a12 a13 a14 a15 a16 a17 : Option D) (h : Sr (n + 3000) (.own xs)) :
    ∃ (xs' : List D) (b4 b5 b6 b7 b8 b9 b10 b11 b12 b13 b14 b15 b16 b17 : Option D), turnL [some S0, some (.int k), some (.own xs), some (.int t), a4, a5, a6, a7, a8, a9, a10, a11, a12, a13, a14, a15, a16, a17] = .nx [some S0, some (.int k), some (.own xs'), some (.int t), b4, b5, b6, b7, b8, b9, b10, b11, b12, b13, b14, b15, b16, b17] ∧ Sr n (.own xs') := by
  obtain ⟨lo, x1, e1, hlo, g1⟩ := t1_ok (n := n + 2900) (some S0) (some (.int k)) (some (.int t)) a4 a5 a6 a7 a8 a9 a10 a11 a12 a13 a14 a15 a16 a17 (h.mono (by omega))
  obtain ⟨room, sz, init, rest, x2, e2, r1, r2, r3, r4, r5, r6, r7, r8, g2⟩ := t2_ok (n := n + 1000) hlo (some S0) (some (.int k)) (some (.int t)) a5 a6 a7 a8 a9 a10 a11 a12 a13 a14 a15 a16 a17 (g1.mono (by omega))
  have hip : ∀ x ∈ init, pageB x = true := fun x hx => r5 x (List.mem_append_left _ hx)
  have hpp : ∀ x ∈ rest ++ init, pageB x = true := fun x hx => r5 x (by rw [List.mem_append] at hx ⊢; exact hx.symm)
  have len : (rest ++ init).length = (init ++ rest).length := by rw [List.length_append, List.length_append]; omega
  have hnd : init.Nodup := (List.nodup_append.mp r4).1
  obtain ⟨x3, H, G, C, e3, g3, h2, h3, h4, h5, h6, h7, h8⟩ := t3_ok (n := n + 100) (room := room) (sz := sz) (init := init) (pages := rest ++ init) (some S0) (some (.int k)) (some (.int t)) (some (.int (lo : Nat))) a9 a10 a11 a12 a13 a14 a15 a16 a17 (g2.mono (by omega)) r1 (by omega) hnd r3 hip hpp (by omega) (by omega) r8
  have sh : Shelf init := ⟨hnd, by have := r7; rw [List.length_append] at this; omega, hip⟩
  have ask : Ask (room : Nat) init H := ⟨by omega, sh, by omega, ⟨by omega, h3⟩⟩
  have tg : Tg (.lst (G.map D.str)) := tg_list h4 (by omega)
  have er : res room init H (.lst (G.map D.str)) = some C := h8
  have pg : ∀ c ∈ init :: C, ∀ x ∈ c, pageB x = true := fun c hc => by
    rcases List.mem_cons.mp hc with rfl | hc
    · exact hip
    · exact (h7 c hc).2
  have e4 := t4_ok (some S0) (some (.int k)) (some (.own x3)) (some (.int t)) (some (.int (lo : Nat))) (some (.own ((rest ++ init).map D.str))) (some (.int (sz : Nat))) a12 a13 a14 a15 a16 a17 room (by omega) ask tg.1 er (by omega) pg
  obtain ⟨x5, z4, z7, z8, z11, z12, z13, z14, z15, z16, z17, e5, g5⟩ := t5_ok (n := n) S0 hs0 k t (some (.int (lo : Nat))) room (some (.int (sz : Nat))) (some (.lst (lstC (init :: C)))) a12 a13 a14 a15 a16 none (init := init) (pages := rest ++ init) (G := G) (l := H) r2 ask (by omega) h4 (by omega) hpp (by omega) (by omega) (g3.mono (by omega))
  have e6 := t6_ok (some S0) (some (.int k)) (some (.own x5)) (some (.int t)) z4 z7 z8 z11 z12 z13 z14 z15 z16 z17 room (by omega) ask tg.1 er
  have e7 := t7_ok (some S0) (some (.int k)) (some (.own x5)) (some (.int t)) z4 z7 z8 z11 z12 z13 z14 z15 z17 room (.tup (init.map D.str)) (evs H) (G.map D.str) (tpL (init :: C)) (plain_tpL _) (by unfold tpL; rw [List.length_map, List.length_cons]; omega)
  have e8 := t8_ok (some S0) (some (.int k)) (some (.own x5)) (some (.int t)) z4 z7 z8 z11 z12 z13 z14 z15 z17 room (by omega) ask tg.1 er pg
  have e9 := t9_ok (some S0) (some (.int k)) (some (.own x5)) (some (.int t)) z4 z7 z8 z11 z12 z13 z14 z15 (some (.own (tpL (init :: C) ++ [.tup []]))) z17 room (.tup (init.map D.str)) (evs H) (G := G) (by omega)
  have h4' : ∀ x ∈ G ++ [("a" : Str)], pageB x = true := fun x hx => by
    rcases List.mem_append.mp hx with hx | hx
    · exact h4 x hx
    · rw [List.mem_singleton.mp hx]; decide +kernel
  have tg' : Tg (.lst ((G ++ [("a" : Str)]).map D.str)) := tg_list h4' (by rw [List.length_append, List.length_singleton]; omega)
  have er' : res room init H (.lst ((G ++ [("a" : Str)]).map D.str)) = none := by
    cases e : res room init H (.lst ((G ++ [("a" : Str)]).map D.str)) with
    | none => rfl
    | some C' =>
      have e' : fo room init H ((G ++ [("a" : Str)]).map D.str) = some C' := e
      have a := (fo_needs room H 0 init _ C' hnd r3 e').1
      have b := (fo_needs room H 0 init _ C hnd r3 h8).1
      rw [List.length_map, List.length_append, List.length_singleton] at a
      rw [List.length_map] at b
      omega
  have e10 := t10_ok (some S0) (some (.int k)) (some (.own x5)) (some (.int t)) z4 z7 z8 z11 z12 z13 z14 z15 (some (.own (tpL (init :: C) ++ [.tup []]))) z17 room (G := G ++ [("a" : Str)]) (by omega) ask tg'.1 er'
  exact ⟨x5, _, _, _, _, _, _, _, _, _, _, _, _, _, _, dSeq_nx e1 (dSeq_nx e2 (dSeq_nx e3 (dSeq_nx e4 (dSeq_nx e5 (dSeq_nx e6 (dSeq_nx e7 (dSeq_nx e8 (dSeq_nx e9 e10)))))))), g5⟩
abbrev S0S : Dn.Env → SOut := dSet 2 (dCall f_l_source (dCons (dVar 0) (dCons (dVar 1) dNil)))
abbrev innerL : Dn.Env → SOut := dFor (dRng (dCons (dC (.int 2)) dNil)) (gN 3) turnL
theorem noLst_scr (ns : List Int) : noLst (.scr (ns.map D.int)) = true := by simpa using noLst_ints ns
theorem outer_ok (ns : List Int) (k : Nat) (hk : k ≤ 10) (a2 a3 a4 a5 a6 a7 a8 a9 a10 a11 a12 a13 a14 a15 a16 a17 : Option D) :
    ∃ (b1 b2 b3 b4 b5 b6 b7 b8 b9 b10 b11 b12 b13 b14 b15 b16 b17 : Option D), dSeq S0S innerL [some (.scr (ns.map D.int)), some (.int (k : Nat)), a2, a3, a4, a5, a6, a7, a8, a9, a10, a11, a12, a13, a14, a15, a16, a17] =
      .nx [some (.scr (ns.map D.int)), b1, b2, b3, b4, b5, b6, b7, b8, b9, b10, b11, b12, b13, b14, b15, b16, b17] := by
  obtain ⟨xs, q, g⟩ := source_ok ns k hk
  have t1 := tame (d := .scr (ns.map D.int)) (by simpa using plain_ints ns)
  have hs0 := noLst_scr ns
  obtain ⟨_, e9, nb, _, nl, _⟩ := g.own
  cases e9
  generalize D.scr (ns.map D.int) = T at *
  have e0 : S0S [some T, some (.int (k : Nat)), a2, a3, a4, a5, a6, a7, a8, a9, a10, a11, a12, a13, a14, a15, a16, a17] = .nx [some T, some (.int (k : Nat)), some (.own xs), a3, a4, a5, a6, a7, a8, a9, a10, a11, a12, a13, a14, a15, a16, a17] := by
    simp [S0S, t1, q, nb, nl]
  obtain ⟨x1, b4, b5, b6, b7, b8, b9, b10, b11, b12, b13, b14, b15, b16, b17, e1, g1⟩ := turnL_ok (n := 500000) T hs0 (k : Nat) 0 a4 a5 a6 a7 a8 a9 a10 a11 a12 a13 a14 a15 a16 a17 (g.mono (by omega))
  obtain ⟨x2, c4, c5, c6, c7, c8, c9, c10, c11, c12, c13, c14, c15, c16, c17, e2, g2⟩ := turnL_ok (n := 400000) T hs0 (k : Nat) 1 b4 b5 b6 b7 b8 b9 b10 b11 b12 b13 b14 b15 b16 b17 (g1.mono (by omega))
  refine ⟨some (.int (k : Nat)), some (.own x2), some (.int 1), c4, c5, c6, c7, c8, c9, c10, c11, c12, c13, c14, c15, c16, c17, dSeq_nx e0 ?_⟩
  have sm : small62 2 := ⟨by decide, by decide⟩
  show foO (gN 3) turnL (dRng (dCons (dC (.int 2)) dNil) _) = _
  have er : ∀ e : Dn.Env, dRng (dCons (dC (.int 2)) dNil) e = .ok [.int 0, .int 1] e := fun e => by
    simp [sm, rngD, List.range, List.range.loop]
  rw [er, z_fo, if_pos (by simp)]
  have g3 : ∀ (v s t' d4 d5 d6 d7 d8 d9 d10 d11 d12 d13 d14 d15 d16 d17 : Option D) (i : Int), gN 3 (.int i) [some T, v, s, t', d4, d5, d6, d7, d8, d9, d10, d11, d12, d13, d14, d15, d16, d17] = some [some T, v, s, some (.int i), d4, d5, d6, d7, d8, d9, d10, d11, d12, d13, d14, d15, d16, d17] := fun _ _ _ _ _ _ _ _ _ _ _ _ _ _ _ _ _ _ => by simp
  exact forL_step (g3 ..) e1 (forL_step (g3 ..) e2 rfl)
theorem law_loop (ns : List Int) : ∀ (m j : Nat) (a1 a2 a3 a4 a5 a6 a7 a8 a9 a10 a11 a12 a13 a14 a15 a16 a17 : Option D), j + m ≤ 10 →
    ∃ (b1 b2 b3 b4 b5 b6 b7 b8 b9 b10 b11 b12 b13 b14 b15 b16 b17 : Option D), forL (gN 1) (dSeq S0S innerL) (nums j m) [some (.scr (ns.map D.int)), a1, a2, a3, a4, a5, a6, a7, a8, a9, a10, a11, a12, a13, a14, a15, a16, a17] =
      .nx [some (.scr (ns.map D.int)), b1, b2, b3, b4, b5, b6, b7, b8, b9, b10, b11, b12, b13, b14, b15, b16, b17]
  | 0, j, a1, a2, a3, a4, a5, a6, a7, a8, a9, a10, a11, a12, a13, a14, a15, a16, a17, _ => ⟨a1, a2, a3, a4, a5, a6, a7, a8, a9, a10, a11, a12, a13, a14, a15, a16, a17, rfl⟩
  | m + 1, j, a1, a2, a3, a4, a5, a6, a7, a8, a9, a10, a11, a12, a13, a14, a15, a16, a17, h => by
    obtain ⟨b1, b2, b3, b4, b5, b6, b7, b8, b9, b10, b11, b12, b13, b14, b15, b16, b17, e1⟩ := outer_ok ns j (by omega) a2 a3 a4 a5 a6 a7 a8 a9 a10 a11 a12 a13 a14 a15 a16 a17
    obtain ⟨c1, c2, c3, c4, c5, c6, c7, c8, c9, c10, c11, c12, c13, c14, c15, c16, c17, e2⟩ := law_loop ns m (j + 1) b1 b2 b3 b4 b5 b6 b7 b8 b9 b10 b11 b12 b13 b14 b15 b16 b17 (by omega)
    refine ⟨c1, c2, c3, c4, c5, c6, c7, c8, c9, c10, c11, c12, c13, c14, c15, c16, c17, ?_⟩
    rw [nums]
    have g1 : gN 1 (.int (j : Nat)) [some (.scr (ns.map D.int)), a1, a2, a3, a4, a5, a6, a7, a8, a9, a10, a11, a12, a13, a14, a15, a16, a17] = some [some (.scr (ns.map D.int)), some (.int (j : Nat)), a2, a3, a4, a5, a6, a7, a8, a9, a10, a11, a12, a13, a14, a15, a16, a17] := by simp
    exact forL_step g1 e1 e2
end Kx
namespace Kx
open PySem PySem.Spec L2 Dn
abbrev endR : Dn.Env → SOut := (dRet (dOp fEq (dCons (dCall f_replay (dCons (dC (.int 1)) (dCons (dTup dNil) (dCons (dLst (dCons (dTup (dCons (dC (.str "miss")) (dCons (dC (.str "a")) dNil))) (dCons (dTup (dCons (dC (.str "miss")) (dCons (dC (.str "b")) dNil))) dNil))) (dCons (dLst (dCons (dC (.str "a")) dNil)) dNil))))) (dCons (dLst (dCons (dTup dNil) (dCons (dTup (dCons (dC (.str "a")) dNil)) (dCons (dTup (dCons (dC (.str "b")) dNil)) dNil)))) dNil))))
theorem end_ok : f_replay [.int 1, .tup [], .lst [.tup [.str "miss", .str "a"], .tup [.str "miss", .str "b"]], .lst [.str "a"]] = .ok (.own [.tup [], .tup [.str "a"], .tup [.str "b"]]) [some (.int 1), some (.tup []), some (.lst [.tup [.str "miss", .str "a"], .tup [.str "miss", .str "b"]]), some (.lst [.str "a"])] := by
  have h : Ask ((1 : Nat) : Int) [] [(true, "a"), (true, "b")] := ⟨by decide, ⟨by simp, by simp, by simp⟩, by decide, ⟨by simp, by decide +kernel⟩⟩
  have tg : Tg (.lst ([("a" : Str)].map D.str)) := tg_list (G := [("a" : Str)]) (by decide +kernel) (by decide)
  have e : res 1 [] [(true, "a"), (true, "b")] (.lst ([("a" : Str)].map D.str)) = some [[("a" : Str)], [("b" : Str)]] := by decide +kernel
  have q := replay_ok (room := 1) (by decide) h tg.1
  rw [e] at q
  have s1 : ∀ x : Str, srtS [x] = [x] := fun x => by unfold srtS; simp
  have s0 : srtS [] = [] := by unfold srtS; simp
  have r : tpL ([] :: [[("a" : Str)], [("b" : Str)]]) = [.tup [], .tup [.str "a"], .tup [.str "b"]] := by
    unfold tpL tpC
    simp [s1, s0]
  simp only [r] at q
  exact q
theorem end_same : qeO (.own [.tup [], .tup [.str "a"], .tup [.str "b"]]) (.own [.tup [], .tup [.str "a"], .tup [.str "b"]]) = some (.bl true) := (qe_same (P := .list [.tuple [], .tuple [.str "a"], .tuple [.str "b"]]) rfl rfl (by decide +kernel) (by decide +kernel)).1
theorem plain_law (ns : List Int) (h : ns.length ≤ 63) : ∃ e, f_law [.scr (ns.map D.int)] = .ok (.bl true) e := by
  have t1 := tame (d := .scr (ns.map D.int)) (by simpa using plain_ints ns)
  have len : lenD (.scr (ns.map D.int)) = some ns.length := by simp
  have r1 : ∀ e, rd e (.scr (ns.map D.int)) = some (.scr (ns.map D.int)) := fun _ => rfl
  obtain ⟨m, hm, hm2⟩ : ∃ m : Nat, (if (if (ns.length : Int) < 6 then (ns.length : Int) else 6) > 1 then (if (ns.length : Int) < 6 then (ns.length : Int) else 6) else 1) = (m : Int) ∧ m ≤ 10 := by
    by_cases h1 : ns.length < 6
    · by_cases h2 : 1 < ns.length
      · exact ⟨ns.length, by rw [if_pos (show (ns.length : Int) < 6 by omega), if_pos (by omega)], by omega⟩
      · exact ⟨1, by rw [if_pos (show (ns.length : Int) < 6 by omega), if_neg (by omega)]; rfl, by omega⟩
    · exact ⟨6, by rw [if_neg (show ¬ (ns.length : Int) < 6 by omega)]; rfl, by omega⟩
  obtain ⟨b1, b2, b3, b4, b5, b6, b7, b8, b9, b10, b11, b12, b13, b14, b15, b16, b17, q⟩ := law_loop ns m 0 none none none none none none none none none none none none none none none none none (by omega)
  have sm : small62 (m : Nat) := ⟨by omega, by omega⟩
  have rn := rngD_nums m
  have pn := plain_nums m 0
  generalize D.scr (ns.map D.int) = T at *
  generalize nums 0 m = nn at *
  refine ⟨[some T], ?_⟩
  have rg : dRng (dCons (dOp fMax2 (dCons (dC (.int 1)) (dCons (dOp fMin2 (dCons (dC (.int 6)) (dCons (dOp fLen (dCons (dVar 0) dNil)) dNil))) dNil))) dNil) [some T, none, none, none, none, none, none, none, none, none, none, none, none, none, none, none, none, none] = .ok nn [some T, none, none, none, none, none, none, none, none, none, none, none, none, none, none, none, none, none] := by
    simp [t1, len, r1, hm, sm, rn]
  have er : ∀ e, endR e = .rt (.bl true) e := fun e => by
    simp [endR, end_ok, end_same]
  have l1 : g_law [some T, none, none, none, none, none, none, none, none, none, none, none, none, none, none, none, none, none] = .rt (.bl true) [some T, b1, b2, b3, b4, b5, b6, b7, b8, b9, b10, b11, b12, b13, b14, b15, b16, b17] := by
    show dSeq (dFor (dRng (dCons (dOp fMax2 (dCons (dC (.int 1)) (dCons (dOp fMin2 (dCons (dC (.int 6)) (dCons (dOp fLen (dCons (dVar 0) dNil)) dNil))) dNil))) dNil)) (gN 1) (dSeq S0S innerL)) endR _ = _
    rw [z_seq, z_for, rg, z_fo, if_pos pn, q, z_qn]
    exact er _
  exact fnD_rt l1 rfl rfl
end Kx
namespace Kx
open PySem PySem.Spec L2 Dn
theorem all_mk {l : PySem.W.OpenLaw} {w : World} {K : PySem.W.Frag} {h : Heap} {mg : Str → Option Value} {fa : Addr} (kin : K.In h) (gl : h.Ns mainGlobals mg) (hfa : mg "law" = some (.ref fa))
    {od0 an0 : Option Addr} {sl0 : Array (Option Value)} {oc0 kV0 dc0 pm0 cd0 ct0 : Value} {f0 : Addr}
    {T0 : Addr} {ocT0 : Value} {odT0 : Option Addr} {nT0 : Nat} {slT0 : Array (Option Value)}
    {od1 an1 : Option Addr} {sl1 : Array (Option Value)} {oc1 kV1 dc1 pm1 cd1 ct1 : Value} {f1 : Addr}
    {od2 an2 : Option Addr} {sl2 : Array (Option Value)} {oc2 kV2 dc2 pm2 cd2 ct2 : Value} {f2 : Addr}
    {od3 an3 : Option Addr} {sl3 : Array (Option Value)} {oc3 kV3 dc3 pm3 cd3 ct3 : Value} {f3 : Addr}
    {od4 an4 : Option Addr} {sl4 : Array (Option Value)} {oc4 kV4 dc4 pm4 cd4 ct4 : Value} {f4 : Addr}
    {od5 an5 : Option Addr} {sl5 : Array (Option Value)} {oc5 kV5 dc5 pm5 cd5 ct5 : Value} {f5 : Addr}
    {od6 an6 : Option Addr} {sl6 : Array (Option Value)} {oc6 kV6 dc6 pm6 cd6 ct6 : Value} {f6 : Addr}
    {od7 an7 : Option Addr} {sl7 : Array (Option Value)} {oc7 kV7 dc7 pm7 cd7 ct7 : Value} {f7 : Addr}
    {od8 an8 : Option Addr} {sl8 : Array (Option Value)} {oc8 kV8 dc8 pm8 cd8 ct8 : Value} {f8 : Addr}
    {od9 an9 : Option Addr} {sl9 : Array (Option Value)} {oc9 kV9 dc9 pm9 cd9 ct9 : Value} {f9 : Addr}
    {od10 an10 : Option Addr} {sl10 : Array (Option Value)} {oc10 kV10 dc10 pm10 cd10 ct10 : Value} {f10 : Addr}
    {od11 an11 : Option Addr} {sl11 : Array (Option Value)} {oc11 kV11 dc11 pm11 cd11 ct11 : Value} {f11 : Addr}
    {od12 an12 : Option Addr} {sl12 : Array (Option Value)} {oc12 kV12 dc12 pm12 cd12 ct12 : Value} {f12 : Addr}
    {od13 an13 : Option Addr} {sl13 : Array (Option Value)} {oc13 kV13 dc13 pm13 cd13 ct13 : Value} {f13 : Addr}
    {od14 an14 : Option Addr} {sl14 : Array (Option Value)} {oc14 kV14 dc14 pm14 cd14 ct14 : Value} {f14 : Addr}
    {od15 an15 : Option Addr} {sl15 : Array (Option Value)} {oc15 kV15 dc15 pm15 cd15 ct15 : Value} {f15 : Addr}
    {od16 an16 : Option Addr} {sl16 : Array (Option Value)} {oc16 kV16 dc16 pm16 cd16 ct16 : Value} {f16 : Addr}
    {od17 an17 : Option Addr} {sl17 : Array (Option Value)} {oc17 kV17 dc17 pm17 cd17 ct17 : Value} {f17 : Addr}
    {od18 an18 : Option Addr} {sl18 : Array (Option Value)} {oc18 kV18 dc18 pm18 cd18 ct18 : Value} {f18 : Addr}
    {od19 an19 : Option Addr} {sl19 : Array (Option Value)} {oc19 kV19 dc19 pm19 cd19 ct19 : Value} {f19 : Addr}
    {od20 an20 : Option Addr} {sl20 : Array (Option Value)} {oc20 kV20 dc20 pm20 cd20 ct20 : Value} {f20 : Addr}
    {od21 an21 : Option Addr} {sl21 : Array (Option Value)} {oc21 kV21 dc21 pm21 cd21 ct21 : Value} {f21 : Addr}
    {tk_HIT : Tok}
    {tk_LETTERS : Tok}
    {tk_MISS : Tok}
    {tk_PAGE_LENGTH : Tok}
    {CX_InvalidCapacity : Addr}
    {CX_InvalidHistory : Addr}
    {CX_InvalidLog : Addr}
    {CX_InvalidShelf : Addr}
    (a0 : PySem.W.nsIn K mainGlobals "is_integer" = some (some (.ref f0)))
    (l0 : K.lookup f0 = some ⟨oc0, od0, .func (PySem.W.fnOf "is_integer" "is_integer" (defArgs s_is_integer) (defBody s_is_integer) (defScope s_is_integer) (.ref T0) kV0 dc0 pm0 an0 cd0 ct0), sl0⟩)
    (c0 : PySem.W.codeIn K cd0 "is_integer" = true)
    (k0 : PySem.W.keepIn K (.ref f0) = true)
    (t0 : K.lookup T0 = some ⟨ocT0, odT0, .seq #[Value.none] nT0, slT0⟩)
    (a1 : PySem.W.nsIn K mainGlobals "is_page" = some (some (.ref f1)))
    (l1 : K.lookup f1 = some ⟨oc1, od1, .func (PySem.W.fnOf "is_page" "is_page" (defArgs s_is_page) (defBody s_is_page) (defScope s_is_page) .none kV1 dc1 pm1 an1 cd1 ct1), sl1⟩)
    (c1 : PySem.W.codeIn K cd1 "is_page" = true)
    (k1 : PySem.W.keepIn K (.ref f1) = true)
    (a2 : PySem.W.nsIn K mainGlobals "is_shelf" = some (some (.ref f2)))
    (l2 : K.lookup f2 = some ⟨oc2, od2, .func (PySem.W.fnOf "is_shelf" "is_shelf" (defArgs s_is_shelf) (defBody s_is_shelf) (defScope s_is_shelf) .none kV2 dc2 pm2 an2 cd2 ct2), sl2⟩)
    (c2 : PySem.W.codeIn K cd2 "is_shelf" = true)
    (k2 : PySem.W.keepIn K (.ref f2) = true)
    (a3 : PySem.W.nsIn K mainGlobals "is_event" = some (some (.ref f3)))
    (l3 : K.lookup f3 = some ⟨oc3, od3, .func (PySem.W.fnOf "is_event" "is_event" (defArgs s_is_event) (defBody s_is_event) (defScope s_is_event) .none kV3 dc3 pm3 an3 cd3 ct3), sl3⟩)
    (c3 : PySem.W.codeIn K cd3 "is_event" = true)
    (k3 : PySem.W.keepIn K (.ref f3) = true)
    (a4 : PySem.W.nsIn K mainGlobals "is_log" = some (some (.ref f4)))
    (l4 : K.lookup f4 = some ⟨oc4, od4, .func (PySem.W.fnOf "is_log" "is_log" (defArgs s_is_log) (defBody s_is_log) (defScope s_is_log) .none kV4 dc4 pm4 an4 cd4 ct4), sl4⟩)
    (c4 : PySem.W.codeIn K cd4 "is_log" = true)
    (k4 : PySem.W.keepIn K (.ref f4) = true)
    (a5 : PySem.W.nsIn K mainGlobals "check_shelf" = some (some (.ref f5)))
    (l5 : K.lookup f5 = some ⟨oc5, od5, .func (PySem.W.fnOf "check_shelf" "check_shelf" (defArgs s_check_shelf) (defBody s_check_shelf) (defScope s_check_shelf) .none kV5 dc5 pm5 an5 cd5 ct5), sl5⟩)
    (c5 : PySem.W.codeIn K cd5 "check_shelf" = true)
    (k5 : PySem.W.keepIn K (.ref f5) = true)
    (a6 : PySem.W.nsIn K mainGlobals "check_log" = some (some (.ref f6)))
    (l6 : K.lookup f6 = some ⟨oc6, od6, .func (PySem.W.fnOf "check_log" "check_log" (defArgs s_check_log) (defBody s_check_log) (defScope s_check_log) .none kV6 dc6 pm6 an6 cd6 ct6), sl6⟩)
    (c6 : PySem.W.codeIn K cd6 "check_log" = true)
    (k6 : PySem.W.keepIn K (.ref f6) = true)
    (a7 : PySem.W.nsIn K mainGlobals "count_sizes" = some (some (.ref f7)))
    (l7 : K.lookup f7 = some ⟨oc7, od7, .func (PySem.W.fnOf "count_sizes" "count_sizes" (defArgs s_count_sizes) (defBody s_count_sizes) (defScope s_count_sizes) .none kV7 dc7 pm7 an7 cd7 ct7), sl7⟩)
    (c7 : PySem.W.codeIn K cd7 "count_sizes" = true)
    (k7 : PySem.W.keepIn K (.ref f7) = true)
    (a8 : PySem.W.nsIn K mainGlobals "evicting" = some (some (.ref f8)))
    (l8 : K.lookup f8 = some ⟨oc8, od8, .func (PySem.W.fnOf "evicting" "evicting" (defArgs s_evicting) (defBody s_evicting) (defScope s_evicting) .none kV8 dc8 pm8 an8 cd8 ct8), sl8⟩)
    (c8 : PySem.W.codeIn K cd8 "evicting" = true)
    (k8 : PySem.W.keepIn K (.ref f8) = true)
    (a9 : PySem.W.nsIn K mainGlobals "next_content" = some (some (.ref f9)))
    (l9 : K.lookup f9 = some ⟨oc9, od9, .func (PySem.W.fnOf "next_content" "next_content" (defArgs s_next_content) (defBody s_next_content) (defScope s_next_content) .none kV9 dc9 pm9 an9 cd9 ct9), sl9⟩)
    (c9 : PySem.W.codeIn K cd9 "next_content" = true)
    (k9 : PySem.W.keepIn K (.ref f9) = true)
    (a10 : PySem.W.nsIn K mainGlobals "replayed" = some (some (.ref f10)))
    (l10 : K.lookup f10 = some ⟨oc10, od10, .func (PySem.W.fnOf "replayed" "replayed" (defArgs s_replayed) (defBody s_replayed) (defScope s_replayed) .none kV10 dc10 pm10 an10 cd10 ct10), sl10⟩)
    (c10 : PySem.W.codeIn K cd10 "replayed" = true)
    (k10 : PySem.W.keepIn K (.ref f10) = true)
    (a11 : PySem.W.nsIn K mainGlobals "replay" = some (some (.ref f11)))
    (l11 : K.lookup f11 = some ⟨oc11, od11, .func (PySem.W.fnOf "replay" "replay" (defArgs s_replay) (defBody s_replay) (defScope s_replay) .none kV11 dc11 pm11 an11 cd11 ct11), sl11⟩)
    (c11 : PySem.W.codeIn K cd11 "replay" = true)
    (k11 : PySem.W.keepIn K (.ref f11) = true)
    (a12 : PySem.W.nsIn K mainGlobals "_law_source" = some (some (.ref f12)))
    (l12 : K.lookup f12 = some ⟨oc12, od12, .func (PySem.W.fnOf "_law_source" "_law_source" (defArgs s_l_source) (defBody s_l_source) (defScope s_l_source) .none kV12 dc12 pm12 an12 cd12 ct12), sl12⟩)
    (c12 : PySem.W.codeIn K cd12 "_law_source" = true)
    (k12 : PySem.W.keepIn K (.ref f12) = true)
    (a13 : PySem.W.nsIn K mainGlobals "_law_draw" = some (some (.ref f13)))
    (l13 : K.lookup f13 = some ⟨oc13, od13, .func (PySem.W.fnOf "_law_draw" "_law_draw" (defArgs s_l_draw) (defBody s_l_draw) (defScope s_l_draw) .none kV13 dc13 pm13 an13 cd13 ct13), sl13⟩)
    (c13 : PySem.W.codeIn K cd13 "_law_draw" = true)
    (k13 : PySem.W.keepIn K (.ref f13) = true)
    (a14 : PySem.W.nsIn K mainGlobals "_law_pages" = some (some (.ref f14)))
    (l14 : K.lookup f14 = some ⟨oc14, od14, .func (PySem.W.fnOf "_law_pages" "_law_pages" (defArgs s_l_pages) (defBody s_l_pages) (defScope s_l_pages) .none kV14 dc14 pm14 an14 cd14 ct14), sl14⟩)
    (c14 : PySem.W.codeIn K cd14 "_law_pages" = true)
    (k14 : PySem.W.keepIn K (.ref f14) = true)
    (a15 : PySem.W.nsIn K mainGlobals "_law_run" = some (some (.ref f15)))
    (l15 : K.lookup f15 = some ⟨oc15, od15, .func (PySem.W.fnOf "_law_run" "_law_run" (defArgs s_l_run) (defBody s_l_run) (defScope s_l_run) .none kV15 dc15 pm15 an15 cd15 ct15), sl15⟩)
    (c15 : PySem.W.codeIn K cd15 "_law_run" = true)
    (k15 : PySem.W.keepIn K (.ref f15) = true)
    (a16 : PySem.W.nsIn K mainGlobals "_law_setup" = some (some (.ref f16)))
    (l16 : K.lookup f16 = some ⟨oc16, od16, .func (PySem.W.fnOf "_law_setup" "_law_setup" (defArgs s_l_setup) (defBody s_l_setup) (defScope s_l_setup) .none kV16 dc16 pm16 an16 cd16 ct16), sl16⟩)
    (c16 : PySem.W.codeIn K cd16 "_law_setup" = true)
    (k16 : PySem.W.keepIn K (.ref f16) = true)
    (a17 : PySem.W.nsIn K mainGlobals "_law_followed" = some (some (.ref f17)))
    (l17 : K.lookup f17 = some ⟨oc17, od17, .func (PySem.W.fnOf "_law_followed" "_law_followed" (defArgs s_l_followed) (defBody s_l_followed) (defScope s_l_followed) .none kV17 dc17 pm17 an17 cd17 ct17), sl17⟩)
    (c17 : PySem.W.codeIn K cd17 "_law_followed" = true)
    (k17 : PySem.W.keepIn K (.ref f17) = true)
    (a18 : PySem.W.nsIn K mainGlobals "_law_told" = some (some (.ref f18)))
    (l18 : K.lookup f18 = some ⟨oc18, od18, .func (PySem.W.fnOf "_law_told" "_law_told" (defArgs s_l_told) (defBody s_l_told) (defScope s_l_told) .none kV18 dc18 pm18 an18 cd18 ct18), sl18⟩)
    (c18 : PySem.W.codeIn K cd18 "_law_told" = true)
    (k18 : PySem.W.keepIn K (.ref f18) = true)
    (a19 : PySem.W.nsIn K mainGlobals "_law_changed" = some (some (.ref f19)))
    (l19 : K.lookup f19 = some ⟨oc19, od19, .func (PySem.W.fnOf "_law_changed" "_law_changed" (defArgs s_l_changed) (defBody s_l_changed) (defScope s_l_changed) .none kV19 dc19 pm19 an19 cd19 ct19), sl19⟩)
    (c19 : PySem.W.codeIn K cd19 "_law_changed" = true)
    (k19 : PySem.W.keepIn K (.ref f19) = true)
    (a20 : PySem.W.nsIn K mainGlobals "_law_bent" = some (some (.ref f20)))
    (l20 : K.lookup f20 = some ⟨oc20, od20, .func (PySem.W.fnOf "_law_bent" "_law_bent" (defArgs s_l_bent) (defBody s_l_bent) (defScope s_l_bent) .none kV20 dc20 pm20 an20 cd20 ct20), sl20⟩)
    (c20 : PySem.W.codeIn K cd20 "_law_bent" = true)
    (k20 : PySem.W.keepIn K (.ref f20) = true)
    (a21 : PySem.W.nsIn K mainGlobals "law" = some (some (.ref f21)))
    (l21 : K.lookup f21 = some ⟨oc21, od21, .func (PySem.W.fnOf "law" "law" (defArgs s_law) (defBody s_law) (defScope s_law) .none kV21 dc21 pm21 an21 cd21 ct21), sl21⟩)
    (c21 : PySem.W.codeIn K cd21 "law" = true)
    (k21 : PySem.W.keepIn K (.ref f21) = true)
    (z_abs : PySem.W.nsIn K mainGlobals "abs" = some none)
    (z_all : PySem.W.nsIn K mainGlobals "all" = some none)
    (z_bool : PySem.W.nsIn K mainGlobals "bool" = some none)
    (z_enumerate : PySem.W.nsIn K mainGlobals "enumerate" = some none)
    (z_int : PySem.W.nsIn K mainGlobals "int" = some none)
    (z_isinstance : PySem.W.nsIn K mainGlobals "isinstance" = some none)
    (z_len : PySem.W.nsIn K mainGlobals "len" = some none)
    (z_list : PySem.W.nsIn K mainGlobals "list" = some none)
    (z_max : PySem.W.nsIn K mainGlobals "max" = some none)
    (z_min : PySem.W.nsIn K mainGlobals "min" = some none)
    (z_range : PySem.W.nsIn K mainGlobals "range" = some none)
    (z_repr : PySem.W.nsIn K mainGlobals "repr" = some none)
    (z_set : PySem.W.nsIn K mainGlobals "set" = some none)
    (z_sorted : PySem.W.nsIn K mainGlobals "sorted" = some none)
    (z_str : PySem.W.nsIn K mainGlobals "str" = some none)
    (z_tuple : PySem.W.nsIn K mainGlobals "tuple" = some none)
    (z_zip : PySem.W.nsIn K mainGlobals "zip" = some none)
    (v_HIT : PySem.W.nsIn K mainGlobals "HIT" = some (some (.str "hit" tk_HIT)))
    (v_LETTERS : PySem.W.nsIn K mainGlobals "LETTERS" = some (some (.str "abcdefghijklmnopqrstuvwxyz" tk_LETTERS)))
    (v_MISS : PySem.W.nsIn K mainGlobals "MISS" = some (some (.str "miss" tk_MISS)))
    (v_PAGE_LENGTH : PySem.W.nsIn K mainGlobals "PAGE_LENGTH" = some (some (.int 4 tk_PAGE_LENGTH)))
    (e0_InvalidCapacity : PySem.W.nsIn K mainGlobals "InvalidCapacity" = some (some (.ref CX_InvalidCapacity)))
    (e1_InvalidCapacity : PySem.W.excIn K CX_InvalidCapacity bmVE "ValueError.__new__" = true)
    (e2_InvalidCapacity : PySem.W.keepIn K (.ref CX_InvalidCapacity) = true)
    (e3_InvalidCapacity : PySem.W.subIn K (.ref CX_InvalidCapacity) (.type "BaseException") = some true)
    (e4_InvalidCapacity : PySem.W.typeIn K (.ref CX_InvalidCapacity) = some (.type "type"))
    (e5_InvalidCapacity : PySem.W.hasDictIn K CX_InvalidCapacity = true)
    (e0_InvalidHistory : PySem.W.nsIn K mainGlobals "InvalidHistory" = some (some (.ref CX_InvalidHistory)))
    (e1_InvalidHistory : PySem.W.excIn K CX_InvalidHistory bmVE "ValueError.__new__" = true)
    (e2_InvalidHistory : PySem.W.keepIn K (.ref CX_InvalidHistory) = true)
    (e3_InvalidHistory : PySem.W.subIn K (.ref CX_InvalidHistory) (.type "BaseException") = some true)
    (e4_InvalidHistory : PySem.W.typeIn K (.ref CX_InvalidHistory) = some (.type "type"))
    (e5_InvalidHistory : PySem.W.hasDictIn K CX_InvalidHistory = true)
    (e0_InvalidLog : PySem.W.nsIn K mainGlobals "InvalidLog" = some (some (.ref CX_InvalidLog)))
    (e1_InvalidLog : PySem.W.excIn K CX_InvalidLog bmVE "ValueError.__new__" = true)
    (e2_InvalidLog : PySem.W.keepIn K (.ref CX_InvalidLog) = true)
    (e3_InvalidLog : PySem.W.subIn K (.ref CX_InvalidLog) (.type "BaseException") = some true)
    (e4_InvalidLog : PySem.W.typeIn K (.ref CX_InvalidLog) = some (.type "type"))
    (e5_InvalidLog : PySem.W.hasDictIn K CX_InvalidLog = true)
    (e0_InvalidShelf : PySem.W.nsIn K mainGlobals "InvalidShelf" = some (some (.ref CX_InvalidShelf)))
    (e1_InvalidShelf : PySem.W.excIn K CX_InvalidShelf bmVE "ValueError.__new__" = true)
    (e2_InvalidShelf : PySem.W.keepIn K (.ref CX_InvalidShelf) = true)
    (e3_InvalidShelf : PySem.W.subIn K (.ref CX_InvalidShelf) (.type "BaseException") = some true)
    (e4_InvalidShelf : PySem.W.typeIn K (.ref CX_InvalidShelf) = some (.type "type"))
    (e5_InvalidShelf : PySem.W.hasDictIn K CX_InvalidShelf = true)
    (s_InvalidCapacity_InvalidHistory : PySem.W.subIn K (.ref CX_InvalidCapacity) (.ref CX_InvalidHistory) = some false)
    (s_InvalidHistory_InvalidHistory : PySem.W.subIn K (.ref CX_InvalidHistory) (.ref CX_InvalidHistory) = some true)
    (s_InvalidLog_InvalidHistory : PySem.W.subIn K (.ref CX_InvalidLog) (.ref CX_InvalidHistory) = some false)
    (s_InvalidShelf_InvalidHistory : PySem.W.subIn K (.ref CX_InvalidShelf) (.ref CX_InvalidHistory) = some false) :
    ∃ fd : FuncData, (∀ (s : Shared) (v : Value), BindsTo s fd ⟨[v], []⟩ [("script", v)]) ∧ ∀ base : Heap, K.In base → base.Ns mainGlobals mg → FnG l.prog w K mg base 7 fa fd ["script"] (spD K mg 1 f_law) := by
  have Y : Fx K mg := ⟨def_atn kin gl a0 l0 c0 k0 t0 rfl (fun _ _ _ _ _ _ _ us its hl hi => match us, its, hl, hi with | [_, _], [_], _, _ => ⟨_, rfl, rfl⟩),
    def_at kin gl a1 l1 c1 k1 (fun _ _ _ _ _ _ us hl => match us, hl with | [_], _ => rfl),
    def_at kin gl a2 l2 c2 k2 (fun _ _ _ _ _ _ us hl => match us, hl with | [_], _ => rfl),
    def_at kin gl a3 l3 c3 k3 (fun _ _ _ _ _ _ us hl => match us, hl with | [_], _ => rfl),
    def_at kin gl a4 l4 c4 k4 (fun _ _ _ _ _ _ us hl => match us, hl with | [_], _ => rfl),
    def_at kin gl a5 l5 c5 k5 (fun _ _ _ _ _ _ us hl => match us, hl with | [_, _], _ => rfl),
    def_at kin gl a6 l6 c6 k6 (fun _ _ _ _ _ _ us hl => match us, hl with | [_, _, _], _ => rfl),
    def_at kin gl a7 l7 c7 k7 (fun _ _ _ _ _ _ us hl => match us, hl with | [_, _, _], _ => rfl),
    def_at kin gl a8 l8 c8 k8 (fun _ _ _ _ _ _ us hl => match us, hl with | [_, _, _], _ => rfl),
    def_at kin gl a9 l9 c9 k9 (fun _ _ _ _ _ _ us hl => match us, hl with | [_, _, _], _ => rfl),
    def_at kin gl a10 l10 c10 k10 (fun _ _ _ _ _ _ us hl => match us, hl with | [_, _, _, _], _ => rfl),
    def_at kin gl a11 l11 c11 k11 (fun _ _ _ _ _ _ us hl => match us, hl with | [_, _, _, _], _ => rfl),
    def_at kin gl a12 l12 c12 k12 (fun _ _ _ _ _ _ us hl => match us, hl with | [_, _], _ => rfl),
    def_at kin gl a13 l13 c13 k13 (fun _ _ _ _ _ _ us hl => match us, hl with | [_, _], _ => rfl),
    def_at kin gl a14 l14 c14 k14 (fun _ _ _ _ _ _ us hl => match us, hl with | [_, _], _ => rfl),
    def_at kin gl a15 l15 c15 k15 (fun _ _ _ _ _ _ us hl => match us, hl with | [_, _, _, _, _], _ => rfl),
    def_at kin gl a16 l16 c16 k16 (fun _ _ _ _ _ _ us hl => match us, hl with | [_, _, _], _ => rfl),
    def_at kin gl a17 l17 c17 k17 (fun _ _ _ _ _ _ us hl => match us, hl with | [_, _, _, _], _ => rfl),
    def_at kin gl a18 l18 c18 k18 (fun _ _ _ _ _ _ us hl => match us, hl with | [_, _, _, _, _], _ => rfl),
    def_at kin gl a19 l19 c19 k19 (fun _ _ _ _ _ _ us hl => match us, hl with | [_, _, _], _ => rfl),
    def_at kin gl a20 l20 c20 k20 (fun _ _ _ _ _ _ us hl => match us, hl with | [_, _], _ => rfl),
    def_at kin gl a21 l21 c21 k21 (fun _ _ _ _ _ _ us hl => match us, hl with | [_], _ => rfl),
    PySem.W.mg_none_of kin gl z_abs,
    PySem.W.mg_none_of kin gl z_all,
    PySem.W.mg_none_of kin gl z_bool,
    PySem.W.mg_none_of kin gl z_enumerate,
    PySem.W.mg_none_of kin gl z_int,
    PySem.W.mg_none_of kin gl z_isinstance,
    PySem.W.mg_none_of kin gl z_len,
    PySem.W.mg_none_of kin gl z_list,
    PySem.W.mg_none_of kin gl z_max,
    PySem.W.mg_none_of kin gl z_min,
    PySem.W.mg_none_of kin gl z_range,
    PySem.W.mg_none_of kin gl z_repr,
    PySem.W.mg_none_of kin gl z_set,
    PySem.W.mg_none_of kin gl z_sorted,
    PySem.W.mg_none_of kin gl z_str,
    PySem.W.mg_none_of kin gl z_tuple,
    PySem.W.mg_none_of kin gl z_zip,
    ⟨_, PySem.W.mg_of kin gl v_HIT⟩,
    ⟨_, PySem.W.mg_of kin gl v_LETTERS⟩,
    ⟨_, PySem.W.mg_of kin gl v_MISS⟩,
    ⟨_, PySem.W.mg_of kin gl v_PAGE_LENGTH⟩,
    excD kin gl e0_InvalidCapacity e1_InvalidCapacity e2_InvalidCapacity e3_InvalidCapacity e4_InvalidCapacity e5_InvalidCapacity,
    excD kin gl e0_InvalidHistory e1_InvalidHistory e2_InvalidHistory e3_InvalidHistory e4_InvalidHistory e5_InvalidHistory,
    excD kin gl e0_InvalidLog e1_InvalidLog e2_InvalidLog e3_InvalidLog e4_InvalidLog e5_InvalidLog,
    excD kin gl e0_InvalidShelf e1_InvalidShelf e2_InvalidShelf e3_InvalidShelf e4_InvalidShelf e5_InvalidShelf,
    subD kin gl e0_InvalidCapacity e0_InvalidHistory s_InvalidCapacity_InvalidHistory,
    subD kin gl e0_InvalidHistory e0_InvalidHistory s_InvalidHistory_InvalidHistory,
    subD kin gl e0_InvalidLog e0_InvalidHistory s_InvalidLog_InvalidHistory,
    subD kin gl e0_InvalidShelf e0_InvalidHistory s_InvalidShelf_InvalidHistory⟩
  have e := hfa.symm.trans (PySem.W.mg_of kin gl a21)
  cases e
  refine ⟨_, fun s v => .of_eq (fd := PySem.W.fnOf "law" "law" (defArgs s_law) (defBody s_law) (defScope s_law) .none kV21 dc21 pm21 an21 cd21 ct21) rfl, fun base hk hg => ?_⟩
  obtain ⟨f, fd, F, hm, D, _⟩ := (c_law (P := l.prog) (w := w) (base := base) Y).ex
  have e := hfa.symm.trans hm
  cases e
  obtain ⟨oc, od, dV, kV, doc, pm, an, cdv, ct, osl, rfl, lk, hcd, hD, hK⟩ := D.ex
  have e2 := l21.symm.trans lk
  injection e2 with e2
  injection e2 with _ _ e3 _
  injection e3 with e3
  rw [e3]
  exact F
end Kx
open PySem PySem.W PyProof.Rows
set_option maxHeartbeats 0 in
theorem PySem.Challenge.cw_hitlog_k03_replays_holds : PySem.Challenge.rw_hitlog_k03_replays.Holds := by
  w_on; o_law; k_head; (case hw => w_witness2)
  k_fill
  refine Dn.walk_G (l := PySem.Challenge.rw_hitlog_k03_replays) (n := 63) (k := 7) (x := "script") (G := Kx.f_law) rfl (by decide) rfl ⟨rfl, by decide, by decide⟩ (fun w h Y => by first | exact PySem.W.kIn_of Y | exact PySem.W.km_in_of Y) ?F Kx.plain_law
  case F =>
    intro w mg fa h KX G hmg
    refine' Kx.all_mk KX G hmg ?a0 ?l0 ?c0 ?k0 ?t0 ?a1 ?l1 ?c1 ?k1 ?a2 ?l2 ?c2 ?k2 ?a3 ?l3 ?c3 ?k3 ?a4 ?l4 ?c4 ?k4 ?a5 ?l5 ?c5 ?k5 ?a6 ?l6 ?c6 ?k6 ?a7 ?l7 ?c7 ?k7 ?a8 ?l8 ?c8 ?k8 ?a9 ?l9 ?c9 ?k9 ?a10 ?l10 ?c10 ?k10 ?a11 ?l11 ?c11 ?k11 ?a12 ?l12 ?c12 ?k12 ?a13 ?l13 ?c13 ?k13 ?a14 ?l14 ?c14 ?k14 ?a15 ?l15 ?c15 ?k15 ?a16 ?l16 ?c16 ?k16 ?a17 ?l17 ?c17 ?k17 ?a18 ?l18 ?c18 ?k18 ?a19 ?l19 ?c19 ?k19 ?a20 ?l20 ?c20 ?k20 ?a21 ?l21 ?c21 ?k21 ?z_abs ?z_all ?z_bool ?z_enumerate ?z_int ?z_isinstance ?z_len ?z_list ?z_max ?z_min ?z_range ?z_repr ?z_set ?z_sorted ?z_str ?z_tuple ?z_zip ?v_HIT ?v_LETTERS ?v_MISS ?v_PAGE_LENGTH ?e0_InvalidCapacity ?e1_InvalidCapacity ?e2_InvalidCapacity ?e3_InvalidCapacity ?e4_InvalidCapacity ?e5_InvalidCapacity ?e0_InvalidHistory ?e1_InvalidHistory ?e2_InvalidHistory ?e3_InvalidHistory ?e4_InvalidHistory ?e5_InvalidHistory ?e0_InvalidLog ?e1_InvalidLog ?e2_InvalidLog ?e3_InvalidLog ?e4_InvalidLog ?e5_InvalidLog ?e0_InvalidShelf ?e1_InvalidShelf ?e2_InvalidShelf ?e3_InvalidShelf ?e4_InvalidShelf ?e5_InvalidShelf ?s_InvalidCapacity_InvalidHistory ?s_InvalidHistory_InvalidHistory ?s_InvalidLog_InvalidHistory ?s_InvalidShelf_InvalidHistory
    (case a0 => k_is)
    (case l0 => k_is)
    (case c0 => k_is)
    (case k0 => k_is)
    (case t0 => k_is)
    (case a1 => k_is)
    (case l1 => k_is)
    (case c1 => k_is)
    (case k1 => k_is)
    (case a2 => k_is)
    (case l2 => k_is)
    (case c2 => k_is)
    (case k2 => k_is)
    (case a3 => k_is)
    (case l3 => k_is)
    (case c3 => k_is)
    (case k3 => k_is)
    (case a4 => k_is)
    (case l4 => k_is)
    (case c4 => k_is)
    (case k4 => k_is)
    (case a5 => k_is)
    (case l5 => k_is)
    (case c5 => k_is)
    (case k5 => k_is)
    (case a6 => k_is)
    (case l6 => k_is)
    (case c6 => k_is)
    (case k6 => k_is)
    (case a7 => k_is)
    (case l7 => k_is)
    (case c7 => k_is)
    (case k7 => k_is)
    (case a8 => k_is)
    (case l8 => k_is)
    (case c8 => k_is)
    (case k8 => k_is)
    (case a9 => k_is)
    (case l9 => k_is)
    (case c9 => k_is)
    (case k9 => k_is)
    (case a10 => k_is)
    (case l10 => k_is)
    (case c10 => k_is)
    (case k10 => k_is)
    (case a11 => k_is)
    (case l11 => k_is)
    (case c11 => k_is)
    (case k11 => k_is)
    (case a12 => k_is)
    (case l12 => k_is)
    (case c12 => k_is)
    (case k12 => k_is)
    (case a13 => k_is)
    (case l13 => k_is)
    (case c13 => k_is)
    (case k13 => k_is)
    (case a14 => k_is)
    (case l14 => k_is)
    (case c14 => k_is)
    (case k14 => k_is)
    (case a15 => k_is)
    (case l15 => k_is)
    (case c15 => k_is)
    (case k15 => k_is)
    (case a16 => k_is)
    (case l16 => k_is)
    (case c16 => k_is)
    (case k16 => k_is)
    (case a17 => k_is)
    (case l17 => k_is)
    (case c17 => k_is)
    (case k17 => k_is)
    (case a18 => k_is)
    (case l18 => k_is)
    (case c18 => k_is)
    (case k18 => k_is)
    (case a19 => k_is)
    (case l19 => k_is)
    (case c19 => k_is)
    (case k19 => k_is)
    (case a20 => k_is)
    (case l20 => k_is)
    (case c20 => k_is)
    (case k20 => k_is)
    (case a21 => k_is)
    (case l21 => k_is)
    (case c21 => k_is)
    (case k21 => k_is)
    (case z_abs => k_is)
    (case z_all => k_is)
    (case z_bool => k_is)
    (case z_enumerate => k_is)
    (case z_int => k_is)
    (case z_isinstance => k_is)
    (case z_len => k_is)
    (case z_list => k_is)
    (case z_max => k_is)
    (case z_min => k_is)
    (case z_range => k_is)
    (case z_repr => k_is)
    (case z_set => k_is)
    (case z_sorted => k_is)
    (case z_str => k_is)
    (case z_tuple => k_is)
    (case z_zip => k_is)
    (case v_HIT => k_is)
    (case v_LETTERS => k_is)
    (case v_MISS => k_is)
    (case v_PAGE_LENGTH => k_is)
    (case e0_InvalidCapacity => k_is)
    (case e1_InvalidCapacity => k_exc)
    (case e2_InvalidCapacity => k_is)
    (case e3_InvalidCapacity => k_is)
    (case e4_InvalidCapacity => k_is)
    (case e5_InvalidCapacity => k_is)
    (case e0_InvalidHistory => k_is)
    (case e1_InvalidHistory => k_exc)
    (case e2_InvalidHistory => k_is)
    (case e3_InvalidHistory => k_is)
    (case e4_InvalidHistory => k_is)
    (case e5_InvalidHistory => k_is)
    (case e0_InvalidLog => k_is)
    (case e1_InvalidLog => k_exc)
    (case e2_InvalidLog => k_is)
    (case e3_InvalidLog => k_is)
    (case e4_InvalidLog => k_is)
    (case e5_InvalidLog => k_is)
    (case e0_InvalidShelf => k_is)
    (case e1_InvalidShelf => k_exc)
    (case e2_InvalidShelf => k_is)
    (case e3_InvalidShelf => k_is)
    (case e4_InvalidShelf => k_is)
    (case e5_InvalidShelf => k_is)
    (case s_InvalidCapacity_InvalidHistory => k_is)
    (case s_InvalidHistory_InvalidHistory => k_is)
    (case s_InvalidLog_InvalidHistory => k_is)
    (case s_InvalidShelf_InvalidHistory => k_is)
