import PyProof.Rows.All
import Wide.All
import OpenK.AllK
import Wide.FinOn
import HandS.ForMost
import HandS.Codes
import HandS.Deep
import HandS.DictComp
import HandS.NoneIn
import HandS.Defaults
import HandS.Conv
import HandS.More
import HandS.OwnEq
import HandS.Star
import HandS.ClsMeth
import HandS.SetKeys
import HandS.TupAny
import HandS.TupLen
import HandS.Style
import HandS.RaiseMore
import HandS.IsInst
import HandS.HeadNt
import KE.KStateDown
import HandS.Head0
import HandS.Head1
import HandS.Head2
import HandS.HeadEnd
import HandS.HeadHook1
import HandS.HeadHook2
import HandS.TupSets
import HandS.SetTxt0
import HandS.Strs
import HandS.DictEq
import HandS.Iter
import PySem.Challenge.RW_noneorsome_k85_whole_both_and_either
set_option Elab.async false
set_option linter.all false
set_option maxRecDepth 100000
/-! The symbolic layer: data trees, symbolic slots Γ, owned objects M, locks L; readings evaluated on them without the heap. -/
namespace K85
open PySem L2
inductive Dt where
  | non | b (c : Bool) | i (n : Int) | s (x : Str) | adr (a : Addr)
  | lst (ds : List Dt) | tup (ds : List Dt)
  | ins (C : Addr) (fs : List (Str × Dt))
  | dK (kvs : List (Str × Dt)) | dT (kvs : List (List Str × Dt))

mutual
def Rep (H : Hp) : Dt → V → Prop
  | .non, v => v = .non
  | .b c, v => v = .bl c
  | .i n, v => v = .int n
  | .s x, v => v = .str x
  | .adr a, v => v = .ref a
  | .lst ds, v => ∃ a xs, v = .ref a ∧ H a = some (.lst xs) ∧ RepL H ds xs
  | .tup ds, v => ∃ a xs, v = .ref a ∧ H a = some (.tup xs) ∧ RepL H ds xs
  | .ins C fs, v => ∃ a dx ws, v = .ref a ∧ H a = some (.ins C dx ws) ∧ RepF H fs ws
  | .dK kvs, v => ∃ a ws, v = .ref a ∧ H a = some (.dK ws) ∧ RepK H kvs ws
  | .dT kvs, v => ∃ a ws, v = .ref a ∧ H a = some (.dT ws) ∧ RepT H kvs ws
def RepL (H : Hp) : List Dt → List V → Prop
  | [], xs => xs = []
  | d :: ds, xs => ∃ x r, xs = x :: r ∧ Rep H d x ∧ RepL H ds r
def RepF (H : Hp) : List (Str × Dt) → List (Str × V) → Prop
  | [], xs => xs = []
  | (k, d) :: ds, xs => ∃ x r, xs = (k, x) :: r ∧ Rep H d x ∧ RepF H ds r
def RepK (H : Hp) : List (Str × Dt) → List (Key × V) → Prop
  | [], xs => xs = []
  | (k, d) :: ds, xs => ∃ x r, xs = (.inr k, x) :: r ∧ Rep H d x ∧ RepK H ds r
def RepT (H : Hp) : List (List Str × Dt) → List (List Key × V) → Prop
  | [], xs => xs = []
  | (k, d) :: ds, xs => ∃ x r, xs = (k.map .inr, x) :: r ∧ Rep H d x ∧ RepT H ds r
end

section
variable {H H' : Hp}
mutual
theorem Rep.up (e : Same H H') : ∀ {d : Dt} {v : V}, Rep H d v → Rep H' d v
  | .non, _, h => h
  | .b _, _, h => h
  | .i _, _, h => h
  | .s _, _, h => h
  | .adr _, _, h => h
  | .lst ds, _, h => by
    unfold Rep at h ⊢
    obtain ⟨a, xs, h1, h2, h3⟩ := h
    exact ⟨a, xs, h1, e _ _ h2, RepL.up e h3⟩
  | .tup ds, _, h => by
    unfold Rep at h ⊢
    obtain ⟨a, xs, h1, h2, h3⟩ := h
    exact ⟨a, xs, h1, e _ _ h2, RepL.up e h3⟩
  | .ins C fs, _, h => by
    unfold Rep at h ⊢
    obtain ⟨a, dx, ws, h1, h2, h3⟩ := h
    exact ⟨a, dx, ws, h1, e _ _ h2, RepF.up e h3⟩
  | .dK kvs, _, h => by
    unfold Rep at h ⊢
    obtain ⟨a, ws, h1, h2, h3⟩ := h
    exact ⟨a, ws, h1, e _ _ h2, RepK.up e h3⟩
  | .dT kvs, _, h => by
    unfold Rep at h ⊢
    obtain ⟨a, ws, h1, h2, h3⟩ := h
    exact ⟨a, ws, h1, e _ _ h2, RepT.up e h3⟩
theorem RepL.up (e : Same H H') : ∀ {ds : List Dt} {xs : List V}, RepL H ds xs → RepL H' ds xs
  | [], _, h => h
  | d :: ds, _, h => by
    unfold RepL at h ⊢
    obtain ⟨x, r, h1, h2, h3⟩ := h
    exact ⟨x, r, h1, Rep.up e h2, RepL.up e h3⟩
theorem RepF.up (e : Same H H') : ∀ {ds : List (Str × Dt)} {xs : List (Str × V)}, RepF H ds xs → RepF H' ds xs
  | [], _, h => h
  | (k, d) :: ds, _, h => by
    unfold RepF at h ⊢
    obtain ⟨x, r, h1, h2, h3⟩ := h
    exact ⟨x, r, h1, Rep.up e h2, RepF.up e h3⟩
theorem RepK.up (e : Same H H') : ∀ {ds : List (Str × Dt)} {xs : List (Key × V)}, RepK H ds xs → RepK H' ds xs
  | [], _, h => h
  | (k, d) :: ds, _, h => by
    unfold RepK at h ⊢
    obtain ⟨x, r, h1, h2, h3⟩ := h
    exact ⟨x, r, h1, Rep.up e h2, RepK.up e h3⟩
theorem RepT.up (e : Same H H') : ∀ {ds : List (List Str × Dt)} {xs : List (List Key × V)}, RepT H ds xs → RepT H' ds xs
  | [], _, h => h
  | (k, d) :: ds, _, h => by
    unfold RepT at h ⊢
    obtain ⟨x, r, h1, h2, h3⟩ := h
    exact ⟨x, r, h1, Rep.up e h2, RepT.up e h3⟩
end
end

/-! ### the state -/
abbrev Mm := Addr → Option Dt
/-- what is locked, and whether it is known to hold a reference -/
abbrev Lk := Addr → Option (Obj × Bool)
abbrev Gm := List (Option Dt)
def mset (M : Mm) (a : Addr) (d : Dt) : Mm := fun b => if b = a then some d else M b
theorem mset_same {M : Mm} {a : Addr} {d : Dt} : mset M a d a = some d := by unfold mset; rw [if_pos rfl]
theorem mset_ne {M : Mm} {a b : Addr} {d : Dt} (h : b ≠ a) : mset M a d b = M b := by unfold mset; rw [if_neg h]
theorem mset_mset {M : Mm} {a : Addr} {d e : Dt} : mset (mset M a d) a e = mset M a e := by
  funext b; unfold mset; split <;> rfl
def mdel (M : Mm) (a : Addr) : Mm := fun b => if b = a then none else M b
theorem mdel_ne {M : Mm} {a b : Addr} (h : b ≠ a) : mdel M a b = M b := by unfold mdel; rw [if_neg h]
theorem mdel_mset {M : Mm} {a : Addr} {d : Dt} (h : M a = none) : mdel (mset M a d) a = M := by
  funext b; unfold mdel mset
  by_cases e : b = a
  · rw [if_pos e, e, h]
  · rw [if_neg e, if_neg e]
def lset (L : Lk) (a : Addr) (o : Obj × Bool) : Lk := fun b => if b = a then some o else L b
theorem lset_same {L : Lk} {a : Addr} {o : Obj × Bool} : lset L a o a = some o := by unfold lset; rw [if_pos rfl]
theorem lset_ne {L : Lk} {a b : Addr} {o : Obj × Bool} (h : b ≠ a) : lset L a o b = L b := by unfold lset; rw [if_neg h]
def isDict (u : HO) : Prop := (∃ ws, u = .dK ws) ∨ ∃ ws, u = .dT ws
/-- a dict, with a reference among its values where c says so -/
def Lkd (c : Bool) (u : HO) : Prop := isDict u ∧ (c = true → ∃ ws, u = .dK ws ∧ ∃ k p, (k, V.ref p) ∈ ws)
def RepO (H : Hp) (d : Dt) (u : HO) : Prop := match d with
  | .lst ds => ∃ xs, u = .lst xs ∧ RepL H ds xs
  | .ins C fs => ∃ dx ws, u = .ins C dx ws ∧ RepF H fs ws
  | .dK kvs => ∃ ws, u = .dK ws ∧ RepK H kvs ws
  | .dT kvs => ∃ ws, u = .dT ws ∧ RepT H kvs ws
  | _ => False
theorem RepO.up {H H' : Hp} (e : Same H H') {d : Dt} {u : HO} (h : RepO H d u) : RepO H' d u := by
  cases d with
  | lst ds => obtain ⟨xs, h1, h2⟩ := h; exact ⟨xs, h1, h2.up e⟩
  | ins C fs => obtain ⟨dx, ws, h1, h2⟩ := h; exact ⟨dx, ws, h1, h2.up e⟩
  | dK kvs => obtain ⟨ws, h1, h2⟩ := h; exact ⟨ws, h1, h2.up e⟩
  | dT kvs => obtain ⟨ws, h1, h2⟩ := h; exact ⟨ws, h1, h2.up e⟩
  | _ => exact h.elim
structure SV (L : Lk) (M : Mm) (H0 H : Hp) : Prop where
  per : ∀ a u, H0 a = some u → (∃ o, L a = some o ∧ H a = some (.frz o.1 u)) ∨ (L a = none ∧ H a = some u)
  lkd : ∀ a o, L a = some o → ∃ u, H0 a = some u ∧ Lkd o.2 u
  own : ∀ a d, M a = some d → H0 a = none ∧ ∃ u, H a = some u ∧ RepO H0 d u
def SG (Γ : Gm) (σ : L2.St) (H0 : Hp) : Prop := σ.length = Γ.length ∧ ∀ (i : Nat) (d : Dt), Γ[i]? = some (some d) → ∃ v, σ[i]? = some (some v) ∧ Rep H0 d v
def vw (M : Mm) : Dt → Dt
  | .adr a => (M a).getD (.adr a)
  | d => d

section
variable {L : Lk} {M M' : Mm} {H0 H H0' H' : Hp} {a p : Addr} {d : Dt} {v : V} {u o : HO} {Γ : Gm} {σ : L2.St}
theorem same_new (h : H p = none) : Same H (upd H p o) := fun b u e => by rw [upd_ne (ne_of_none e h)]; exact e
theorem SG.up (e : Same H0 H0') (g : SG Γ σ H0) : SG Γ σ H0' := ⟨g.1, fun i d h => let ⟨v, h1, h2⟩ := g.2 i d h; ⟨v, h1, h2.up e⟩⟩
theorem SG.set (g : SG Γ σ H0) (i : Nat) (r : Rep H0 d v) : SG (Γ.set i (some d)) (σ.set i (some v)) H0 := by
  refine ⟨by rw [List.length_set, List.length_set, g.1], fun j e h => ?_⟩
  by_cases hj : j = i
  · subst hj
    have hl : j < Γ.length := by
      have := (List.getElem?_eq_some_iff.mp h).1
      simpa using this
    rw [List.getElem?_set_self hl] at h
    cases h
    exact ⟨v, by rw [List.getElem?_set_self (by rw [g.1]; exact hl)], r⟩
  · rw [List.getElem?_set_ne (Ne.symm hj)] at h ⊢
    exact g.2 j e h
theorem SG.unset (g : SG Γ σ H0) (i : Nat) (o : Option V) : SG (Γ.set i none) (σ.set i o) H0 := by
  refine ⟨by rw [List.length_set, List.length_set, g.1], fun j e h => ?_⟩
  by_cases hj : j = i
  · subst hj
    have hl : j < Γ.length := by
      have := (List.getElem?_eq_some_iff.mp h).1
      simpa using this
    rw [List.getElem?_set_self hl] at h
    cases h
  · rw [List.getElem?_set_ne (Ne.symm hj)] at h ⊢
    exact g.2 j e h
theorem SV.fresh0 (s : SV L M H0 H) (h : H p = none) : H0 p = none := by
  cases q : H0 p with
  | none => rfl
  | some u =>
    rcases s.per p u q with ⟨o, _, e⟩ | ⟨_, e⟩
    · rw [h] at e; cases e
    · rw [h] at e; cases e
theorem SV.freshM (s : SV L M H0 H) (h : H p = none) : M p = none := by
  cases q : M p with
  | none => rfl
  | some d =>
    obtain ⟨_, u, e, _⟩ := s.own p d q
    rw [h] at e; cases e
theorem SV.freshL (s : SV L M H0 H) (h : H0 p = none) : L p = none := by
  cases q : L p with
  | none => rfl
  | some o =>
    obtain ⟨u, e, _⟩ := s.lkd p o q
    rw [h] at e; cases e
theorem SV.newP (s : SV L M H0 H) (h : H p = none) : SV L M (upd H0 p o) (upd H p o) := by
  have h0 := s.fresh0 h
  refine ⟨fun b w e => ?_, fun b w e => ?_, fun b w e => ?_⟩
  · by_cases hb : b = p
    · subst hb
      rw [upd_same] at e; cases e
      exact .inr ⟨s.freshL h0, upd_same⟩
    · rw [upd_ne hb] at e ⊢
      exact s.per b w e
  · obtain ⟨w', e', dd⟩ := s.lkd b w e
    exact ⟨w', by rw [upd_ne (ne_of_none e' h0)]; exact e', dd⟩
  · obtain ⟨e0, w', e', r⟩ := s.own b w e
    have hb : b ≠ p := ne_of_none e' h
    exact ⟨by rw [upd_ne hb]; exact e0, w', by rw [upd_ne hb]; exact e', r.up (same_new h0)⟩
theorem SV.newM (s : SV L M H0 H) (h : H p = none) (r : RepO H0 d u) : SV L (mset M p d) H0 (upd H p u) := by
  refine ⟨fun b w e => ?_, s.lkd, fun b w e => ?_⟩
  · have hb : b ≠ p := ne_of_none e (s.fresh0 h)
    rw [upd_ne hb]
    exact s.per b w e
  · by_cases hb : b = p
    · subst hb
      rw [mset_same] at e; cases e
      exact ⟨s.fresh0 h, u, upd_same, r⟩
    · rw [mset_ne hb] at e
      rw [upd_ne hb]
      exact s.own b w e
theorem SV.wr {d0 : Dt} (s : SV L M H0 H) (h : M a = some d0) (r : RepO H0 d u) : SV L (mset M a d) H0 (upd H a u) := by
  obtain ⟨h0, _⟩ := s.own a d0 h
  refine ⟨fun b w e => ?_, s.lkd, fun b w e => ?_⟩
  · have hb : b ≠ a := ne_of_none e h0
    rw [upd_ne hb]
    exact s.per b w e
  · by_cases hb : b = a
    · subst hb
      rw [mset_same] at e; cases e
      exact ⟨h0, u, upd_same, r⟩
    · rw [mset_ne hb] at e
      rw [upd_ne hb]
      exact s.own b w e
theorem SV.less (s : SV L M H0 H) (h : ∀ b d, M' b = some d → M b = some d) : SV L M' H0 H := ⟨s.per, s.lkd, fun b d e => s.own b d (h b d e)⟩
theorem RepO.rep (r : RepO H d u) (h : H a = some u) : Rep H d (.ref a) := by
  cases d with
  | lst ds => obtain ⟨xs, rfl, h2⟩ := r; unfold Rep; exact ⟨a, xs, rfl, h, h2⟩
  | ins C fs => obtain ⟨dx, ws, rfl, h2⟩ := r; unfold Rep; exact ⟨a, dx, ws, rfl, h, h2⟩
  | dK kvs => obtain ⟨ws, rfl, h2⟩ := r; unfold Rep; exact ⟨a, ws, rfl, h, h2⟩
  | dT kvs => obtain ⟨ws, rfl, h2⟩ := r; unfold Rep; exact ⟨a, ws, rfl, h, h2⟩
  | _ => exact r.elim
/-- an owned object becomes data -/
theorem SV.frz (s : SV L M H0 H) (h : M a = some d) : ∃ H1, Same H0 H1 ∧ SV L (mdel M a) H1 H ∧ Rep H1 d (.ref a) := by
  obtain ⟨h0, u, hu, r⟩ := s.own a d h
  have e := same_new (o := u) h0
  refine ⟨upd H0 a u, e, ⟨fun b w q => ?_, fun b w q => ?_, fun b w q => ?_⟩, (r.up e).rep upd_same⟩
  · by_cases hb : b = a
    · subst hb
      rw [upd_same] at q; cases q
      exact .inr ⟨s.freshL h0, hu⟩
    · rw [upd_ne hb] at q
      exact s.per b w q
  · obtain ⟨w', e', dd⟩ := s.lkd b w q
    exact ⟨w', e _ _ e', dd⟩
  · by_cases hb : b = a
    · subst hb
      unfold mdel at q
      rw [if_pos rfl] at q; cases q
    · rw [mdel_ne hb] at q
      obtain ⟨e0, w', e', r'⟩ := s.own b w q
      exact ⟨by rw [upd_ne hb]; exact e0, w', e', r'.up e⟩

/-! what is read -/
theorem vw_of {d e : Dt} (h : vw M d = e) (hn : ∀ b, e ≠ .adr b) : (d = e) ∨ ∃ a, d = .adr a ∧ M a = some e := by
  cases d with
  | adr a =>
    have h : (M a).getD (.adr a) = e := h
    cases q : M a with
    | none => rw [q] at h; exact absurd h.symm (hn a)
    | some w => rw [q] at h; exact .inr ⟨a, rfl, by rw [← h] <;> exact q⟩
  | _ => exact .inl h
theorem SV.lst {ds : List Dt} (s : SV L M H0 H) (r : Rep H0 d v) (h : vw M d = .lst ds) : ∃ a xs, v = .ref a ∧ H a = some (.lst xs) ∧ RepL H0 ds xs := by
  rcases vw_of h (fun _ q => nomatch q) with rfl | ⟨a, rfl, e⟩
  · unfold Rep at r
    obtain ⟨a, xs, h1, h2, h3⟩ := r
    rcases s.per a _ h2 with ⟨o, q, _⟩ | ⟨_, q⟩
    · obtain ⟨u, q1, q2⟩ := s.lkd a o q
      rw [h2] at q1; cases q1
      rcases q2.1 with ⟨_, q2⟩ | ⟨_, q2⟩ <;> cases q2
    · exact ⟨a, xs, h1, q, h3⟩
  · unfold Rep at r
    obtain ⟨_, u, hu, xs, rfl, h3⟩ := s.own a _ e
    exact ⟨a, xs, r, hu, h3⟩
theorem SV.tup {ds : List Dt} (s : SV L M H0 H) (r : Rep H0 d v) (h : vw M d = .tup ds) : ∃ a xs, v = .ref a ∧ H0 a = some (.tup xs) ∧ H a = some (.tup xs) ∧ RepL H0 ds xs := by
  rcases vw_of h (fun _ q => nomatch q) with rfl | ⟨a, rfl, e⟩
  · unfold Rep at r
    obtain ⟨a, xs, h1, h2, h3⟩ := r
    rcases s.per a _ h2 with ⟨o, q, _⟩ | ⟨_, q⟩
    · obtain ⟨u, q1, q2⟩ := s.lkd a o q
      rw [h2] at q1; cases q1
      rcases q2.1 with ⟨_, q2⟩ | ⟨_, q2⟩ <;> cases q2
    · exact ⟨a, xs, h1, h2, q, h3⟩
  · obtain ⟨_, u, hu, q⟩ := s.own a _ e
    exact q.elim
theorem SV.ins {C : Addr} {fs : List (Str × Dt)} (s : SV L M H0 H) (r : Rep H0 d v) (h : vw M d = .ins C fs) : ∃ a dx ws, v = .ref a ∧ H a = some (.ins C dx ws) ∧ RepF H0 fs ws := by
  rcases vw_of h (fun _ q => nomatch q) with rfl | ⟨a, rfl, e⟩
  · unfold Rep at r
    obtain ⟨a, dx, ws, h1, h2, h3⟩ := r
    rcases s.per a _ h2 with ⟨o, q, _⟩ | ⟨_, q⟩
    · obtain ⟨u, q1, q2⟩ := s.lkd a o q
      rw [h2] at q1; cases q1
      rcases q2.1 with ⟨_, q2⟩ | ⟨_, q2⟩ <;> cases q2
    · exact ⟨a, dx, ws, h1, q, h3⟩
  · unfold Rep at r
    obtain ⟨_, u, hu, dx, ws, rfl, h3⟩ := s.own a _ e
    exact ⟨a, dx, ws, r, hu, h3⟩
theorem SV.dK {kvs : List (Str × Dt)} (s : SV L M H0 H) (r : Rep H0 d v) (h : vw M d = .dK kvs) : ∃ a ws, v = .ref a ∧ Rd H a (.dK ws) ∧ RepK H0 kvs ws ∧ (L a = none → H a = some (.dK ws)) := by
  rcases vw_of h (fun _ q => nomatch q) with rfl | ⟨a, rfl, e⟩
  · unfold Rep at r
    obtain ⟨a, xs, h1, h2, h3⟩ := r
    rcases s.per a _ h2 with ⟨o, q1, q⟩ | ⟨_, q⟩
    · exact ⟨a, xs, h1, .inr ⟨o.1, q⟩, h3, fun z => by rw [q1] at z; cases z⟩
    · exact ⟨a, xs, h1, .inl q, h3, fun _ => q⟩
  · unfold Rep at r
    obtain ⟨_, u, hu, xs, rfl, h3⟩ := s.own a _ e
    exact ⟨a, xs, r, .inl hu, h3, fun _ => hu⟩
theorem SV.dT {kvs : List (List Str × Dt)} (s : SV L M H0 H) (r : Rep H0 d v) (h : vw M d = .dT kvs) : ∃ a ws, v = .ref a ∧ Rd H a (.dT ws) ∧ RepT H0 kvs ws ∧ (L a = none → H a = some (.dT ws)) := by
  rcases vw_of h (fun _ q => nomatch q) with rfl | ⟨a, rfl, e⟩
  · unfold Rep at r
    obtain ⟨a, xs, h1, h2, h3⟩ := r
    rcases s.per a _ h2 with ⟨o, q1, q⟩ | ⟨_, q⟩
    · exact ⟨a, xs, h1, .inr ⟨o.1, q⟩, h3, fun z => by rw [q1] at z; cases z⟩
    · exact ⟨a, xs, h1, .inl q, h3, fun _ => q⟩
  · unfold Rep at r
    obtain ⟨_, u, hu, xs, rfl, h3⟩ := s.own a _ e
    exact ⟨a, xs, r, .inl hu, h3, fun _ => hu⟩
end
end K85
set_option maxRecDepth 100000
/-! The judgements over symbolic states, and their rules. -/
namespace K85
open PySem L2

def dStrs (xs : List Str) : List Dt := xs.map Dt.s
theorem repL_strs {H : Hp} : ∀ {xs : List Str} {vs : List V}, RepL H (dStrs xs) vs → vs = xs.map V.str
  | [], vs, h => h
  | x :: xs, vs, h => by
    unfold dStrs at h
    rw [List.map_cons] at h
    unfold RepL at h
    obtain ⟨y, r, rfl, h1, h2⟩ := h
    unfold Rep at h1
    rw [h1, repL_strs (xs := xs) h2]
    rfl
theorem repL_of_strs {H : Hp} : ∀ (xs : List Str), RepL H (dStrs xs) (xs.map V.str)
  | [] => by
    unfold dStrs RepL
    rfl
  | x :: xs => by
    unfold dStrs
    rw [List.map_cons]
    unfold RepL
    refine ⟨_, _, rfl, ?_, repL_of_strs xs⟩
    unfold Rep
    rfl
theorem repL_len {H : Hp} : ∀ {ds : List Dt} {vs : List V}, RepL H ds vs → vs.length = ds.length
  | [], vs, h => by
    unfold RepL at h
    subst h
    rfl
  | d :: ds, vs, h => by
    unfold RepL at h
    obtain ⟨x, r, rfl, _, h2⟩ := h
    rw [List.length_cons, List.length_cons, repL_len h2]
theorem repL_get {H : Hp} : ∀ {ds : List Dt} {vs : List V} {i : Nat} {d : Dt}, RepL H ds vs → ds[i]? = some d → ∃ v, vs[i]? = some v ∧ Rep H d v
  | [], vs, i, d, h, e => by simp at e
  | d :: ds, vs, 0, _, h, e => by
    unfold RepL at h
    obtain ⟨x, r, rfl, h1, h2⟩ := h
    simp at e
    subst e
    exact ⟨x, by simp, h1⟩
  | d :: ds, vs, i + 1, _, h, e => by
    unfold RepL at h
    obtain ⟨x, r, rfl, h1, h2⟩ := h
    simp at e
    obtain ⟨v, h3, h4⟩ := repL_get h2 e
    exact ⟨v, by simpa using h3, h4⟩
theorem repL_app {H : Hp} : ∀ {ds es : List Dt} {vs ws : List V}, RepL H ds vs → RepL H es ws → RepL H (ds ++ es) (vs ++ ws)
  | [], es, vs, ws, h, k => by
    unfold RepL at h
    rw [h]
    exact k
  | d :: ds, es, vs, ws, h, k => by
    unfold RepL at h
    obtain ⟨x, r, rfl, h1, h2⟩ := h
    rw [List.cons_append]
    unfold RepL
    exact ⟨x, r ++ ws, rfl, h1, repL_app h2 k⟩
theorem repL_one {H : Hp} {d : Dt} {v : V} (h : Rep H d v) : RepL H [d] [v] := by
  unfold RepL
  refine ⟨v, [], rfl, h, ?_⟩
  unfold RepL
  rfl
theorem repL_nil {H : Hp} : RepL H [] [] := by
  unfold RepL
  rfl
theorem repL_cons {H : Hp} {d : Dt} {v : V} {ds : List Dt} {vs : List V} (h : Rep H d v) (k : RepL H ds vs) : RepL H (d :: ds) (v :: vs) := by
  unfold RepL
  exact ⟨v, vs, rfl, h, k⟩

/-- an evaluation: what the value is, what is owned behind it -/
def Ev (L : Lk) (Γ : Gm) (M : Mm) (te : TE) (P : Dt → Mm → Prop) : Prop := ∀ σ H0 H (Q : VK), SV L M H0 H → SG Γ σ H0 →
  (∀ v d M' H0' H', Same H0 H0' → SV L M' H0' H' → Rep H0' d v → P d M' → Q v H') → te σ H Q
def EvT (L : Lk) (Γ : Gm) (M : Mm) (t : TT) (P : Bool → Mm → Prop) : Prop := ∀ σ H0 H (Q : Bool → Hp → Prop), SV L M H0 H → SG Γ σ H0 →
  (∀ b M' H0' H', Same H0 H0' → SV L M' H0' H' → P b M' → Q b H') → t σ H Q
def EvA (L : Lk) (Γ : Gm) (M : Mm) (t : TA) (P : List Dt → Mm → Prop) : Prop := ∀ σ H0 H (Q : List V → Hp → Prop), SV L M H0 H → SG Γ σ H0 →
  (∀ vs ds M' H0' H', Same H0 H0' → SV L M' H0' H' → RepL H0' ds vs → P ds M' → Q vs H') → t σ H Q
def EvO (L : Lk) (Γ : Gm) (M : Mm) (t : TO) (P : Option Int → Mm → Prop) : Prop := ∀ σ H0 H (Q : Option Int → Hp → Prop), SV L M H0 H → SG Γ σ H0 →
  (∀ o M' H0' H', Same H0 H0' → SV L M' H0' H' → P o M' → Q o H') → t σ H Q
def Op (L : Lk) (M : Mm) (r : R2) (x y : Dt) (P : Dt → Mm → Prop) : Prop := ∀ H0 H v w (Q : VK), SV L M H0 H → Rep H0 x v → Rep H0 y w →
  (∀ z d M' H0' H', Same H0 H0' → SV L M' H0' H' → Rep H0' d z → P d M' → Q z H') → r v w H Q
def Cb (L : Lk) (M : Mm) (r : List V → Hp → VK → Prop) (ds : List Dt) (P : Dt → Mm → Prop) : Prop := ∀ H0 H vs (Q : VK), SV L M H0 H → RepL H0 ds vs →
  (∀ z d M' H0' H', Same H0 H0' → SV L M' H0' H' → Rep H0' d z → P d M' → Q z H') → r vs H Q
def Mt (L : Lk) (M : Mm) (r : V → List V → Hp → VK → Prop) (x : Dt) (ds : List Dt) (P : Dt → Mm → Prop) : Prop := ∀ H0 H v vs (Q : VK), SV L M H0 H → Rep H0 x v → RepL H0 ds vs →
  (∀ z d M' H0' H', Same H0 H0' → SV L M' H0' H' → Rep H0' d z → P d M' → Q z H') → r v vs H Q
/-- a target -/
def Gv (L : Lk) (Γ : Gm) (M : Mm) (g : TG) (d : Dt) (P : Gm → Mm → Prop) : Prop := ∀ σ H0 H v (Q : L2.St → Hp → Prop), SV L M H0 H → SG Γ σ H0 → Rep H0 d v →
  (∀ Γ' M' σ' H0' H', Same H0 H0' → SV L M' H0' H' → SG Γ' σ' H0' → P Γ' M' → Q σ' H') → g v σ H Q
def Gvs (L : Lk) (Γ : Gm) (M : Mm) (g : TGs) (ds : List Dt) (P : Gm → Mm → Prop) : Prop := ∀ σ H0 H vs (Q : L2.St → Hp → Prop), SV L M H0 H → SG Γ σ H0 → RepL H0 ds vs →
  (∀ Γ' M' σ' H0' H', Same H0 H0' → SV L M' H0' H' → SG Γ' σ' H0' → P Γ' M' → Q σ' H') → g vs σ H Q
structure Es where
  nx : Gm → Mm → Prop
  rt : Dt → Mm → Prop
  bk : Gm → Mm → Prop := fun _ _ => False
  ct : Gm → Mm → Prop := fun _ _ => False
/-- the ends of a statement stand for symbolic ones -/
structure EsOk (L : Lk) (H0 : Hp) (E : Es) (D : Ends) : Prop where
  nx : ∀ Γ' M' σ' H0' H', Same H0 H0' → SV L M' H0' H' → SG Γ' σ' H0' → E.nx Γ' M' → D.nx σ' H'
  rt : ∀ v d M' H0' H', Same H0 H0' → SV L M' H0' H' → Rep H0' d v → E.rt d M' → D.rt v H'
  bk : ∀ Γ' M' σ' H0' H', Same H0 H0' → SV L M' H0' H' → SG Γ' σ' H0' → E.bk Γ' M' → D.bk σ' H'
  ct : ∀ Γ' M' σ' H0' H', Same H0 H0' → SV L M' H0' H' → SG Γ' σ' H0' → E.ct Γ' M' → D.ct σ' H'
def Run (L : Lk) (Γ : Gm) (M : Mm) (ts : TS) (E : Es) : Prop := ∀ σ H0 H (D : Ends), SV L M H0 H → SG Γ σ H0 → EsOk L H0 E D → ts D σ H
theorem EsOk.up {L : Lk} {H0 H1 : Hp} {E : Es} {D : Ends} (e : Same H0 H1) (o : EsOk L H0 E D) : EsOk L H1 E D :=
  ⟨fun _ _ _ _ _ a => o.nx _ _ _ _ _ (e.trans a), fun _ _ _ _ _ a => o.rt _ _ _ _ _ (e.trans a), fun _ _ _ _ _ a => o.bk _ _ _ _ _ (e.trans a), fun _ _ _ _ _ a => o.ct _ _ _ _ _ (e.trans a)⟩

section
variable {L : Lk} {Γ Γ' : Gm} {M M' : Mm} {ta tb tc te : TE} {t u : TT} {P : Dt → Mm → Prop} {PB : Bool → Mm → Prop} {r : R2} {K : PySem.W.Frag} {d : Dt}
theorem e_var {i : Nat} (h : Γ[i]? = some (some d)) (k : P d M) : Ev L Γ M (tVar i) P := fun σ H0 H Q s g q => by
  obtain ⟨v, h1, h2⟩ := g.2 i d h
  exact ⟨v, h1, q v d M H0 H (Same.refl H0) s h2 k⟩
theorem e_int {i : Int} (k : P (.i i) M) : Ev L Γ M (tC (.int i)) P := fun σ H0 H Q s g q => q _ (.i i) M H0 H (Same.refl H0) s (by unfold Rep; rfl) k
theorem e_str {x : Str} (k : P (.s x) M) : Ev L Γ M (tC (.str x)) P := fun σ H0 H Q s g q => q _ (.s x) M H0 H (Same.refl H0) s (by unfold Rep; rfl) k
theorem e_bl {b : Bool} (k : P (.b b) M) : Ev L Γ M (tC (.bl b)) P := fun σ H0 H Q s g q => q _ (.b b) M H0 H (Same.refl H0) s (by unfold Rep; rfl) k
theorem e_non (k : P .non M) : Ev L Γ M (tC .non) P := fun σ H0 H Q s g q => q _ .non M H0 H (Same.refl H0) s (by unfold Rep; rfl) k
theorem e_ref {a : Addr} (k : P (.adr a) M) : Ev L Γ M (tC (.ref a)) P := fun σ H0 H Q s g q => q _ (.adr a) M H0 H (Same.refl H0) s (by unfold Rep; rfl) k
theorem e_op (h : Ev L Γ M ta fun x M1 => Ev L Γ M1 tb fun y M2 => Op L M2 r x y P) : Ev L Γ M (tOp r ta tb) P := fun σ H0 H Q s g q =>
  h σ H0 H _ s g fun v1 d1 M1 H1 H1' e1 s1 r1 p1 => p1 σ H1 H1' _ s1 (g.up e1) fun v2 d2 M2 H2 H2' e2 s2 r2 p2 =>
    p2 H2 H2' v1 v2 Q s2 (r1.up e2) r2 fun v d M3 H3 H3' e3 s3 r3 p3 => q v d M3 H3 H3' ((e1.trans e2).trans e3) s3 r3 p3
theorem e_un {r : V → Hp → VK → Prop} (h : Ev L Γ M ta fun x M1 => Mt L M1 (fun v _ H Q => r v H Q) x [] P) : Ev L Γ M (tUn r ta) P := fun σ H0 H Q s g q =>
  h σ H0 H _ s g fun v1 d1 M1 H1 H1' e1 s1 r1 p1 => p1 H1 H1' v1 [] Q s1 r1 repL_nil fun v d M3 H3 H3' e3 s3 r3 p3 => q v d M3 H3 H3' (e1.trans e3) s3 r3 p3
theorem Ev.mono (h : Ev L Γ M te P) {P' : Dt → Mm → Prop} (k : ∀ d M', P d M' → P' d M') : Ev L Γ M te P' := fun σ H0 H Q s g q =>
  h σ H0 H Q s g fun v d M' H0' H' e s' r p => q v d M' H0' H' e s' r (k d M' p)
theorem EvT.mono (h : EvT L Γ M t PB) {P' : Bool → Mm → Prop} (k : ∀ d M', PB d M' → P' d M') : EvT L Γ M t P' := fun σ H0 H Q s g q =>
  h σ H0 H Q s g fun d M' H0' H' e s' p => q d M' H0' H' e s' (k d M' p)

/-! tests -/
theorem t_test (h : Ev L Γ M te fun d M1 => ∃ b, d = .b b ∧ PB b M1) : EvT L Γ M (tTest te) PB := fun σ H0 H Q s g q =>
  h σ H0 H _ s g fun v d M' H0' H' e s' rr p => by
    obtain ⟨b, rfl, p⟩ := p
    unfold Rep at rr
    exact ⟨b, rr, q b M' H0' H' e s' p⟩
theorem t_B (h : Ev L Γ M te fun d M1 => ∃ b, d = .b b ∧ PB b M1) : EvT L Γ M (tB te) PB := t_test h
theorem t_not (h : EvT L Γ M t fun b M1 => PB (!b) M1) : EvT L Γ M (tNot t) PB := fun σ H0 H Q s g q =>
  h σ H0 H _ s g fun b M' H0' H' e s' p => q (!b) M' H0' H' e s' p
theorem t_and (h : EvT L Γ M t fun b M1 => if b = true then EvT L Γ M1 u PB else PB false M1) : EvT L Γ M (tAnd t u) PB := fun σ H0 H Q s g q =>
  h σ H0 H _ s g fun b M' H0' H' e s' p => by
    cases b with
    | true => exact p σ H0' H' Q s' (g.up e) fun b M'' H0'' H'' e' => q b M'' H0'' H'' (e.trans e')
    | false => exact q false M' H0' H' e s' p
theorem t_or (h : EvT L Γ M t fun b M1 => if b = true then PB true M1 else EvT L Γ M1 u PB) : EvT L Γ M (tOr t u) PB := fun σ H0 H Q s g q =>
  h σ H0 H _ s g fun b M' H0' H' e s' p => by
    cases b with
    | false => exact p σ H0' H' Q s' (g.up e) fun b M'' H0'' H'' e' => q b M'' H0'' H'' (e.trans e')
    | true => exact q true M' H0' H' e s' p
theorem t_yes (k : PB true M) : EvT L Γ M tYes PB := fun σ H0 H Q s g q => q true M H0 H (Same.refl H0) s k
theorem e_andV (h : Ev L Γ M ta fun d M1 => ∃ b, d = .b b ∧ if b = true then Ev L Γ M1 tb P else P (.b false) M1) : Ev L Γ M (tAndV ta tb) P := fun σ H0 H Q s g q =>
  h σ H0 H _ s g fun v d M' H0' H' e s' rr p => by
    obtain ⟨b, rfl, p⟩ := p
    unfold Rep at rr
    refine ⟨b, rr, ?_⟩
    cases b with
    | true => exact p σ H0' H' Q s' (g.up e) fun v d M'' H0'' H'' e' => q v d M'' H0'' H'' (e.trans e')
    | false => exact q _ (.b false) M' H0' H' e s' (by unfold Rep; rfl) p
theorem e_orV (h : Ev L Γ M ta fun d M1 => ∃ b, d = .b b ∧ if b = true then P (.b true) M1 else Ev L Γ M1 tb P) : Ev L Γ M (tOrV ta tb) P := fun σ H0 H Q s g q =>
  h σ H0 H _ s g fun v d M' H0' H' e s' rr p => by
    obtain ⟨b, rfl, p⟩ := p
    unfold Rep at rr
    refine ⟨b, rr, ?_⟩
    cases b with
    | false => exact p σ H0' H' Q s' (g.up e) fun v d M'' H0'' H'' e' => q v d M'' H0'' H'' (e.trans e')
    | true => exact q _ (.b true) M' H0' H' e s' (by unfold Rep; rfl) p
theorem e_notV (h : Ev L Γ M ta fun d M1 => ∃ b, d = .b b ∧ P (.b (!b)) M1) : Ev L Γ M (tNotV ta) P := fun σ H0 H Q s g q =>
  h σ H0 H _ s g fun v d M' H0' H' e s' rr p => by
    obtain ⟨b, rfl, p⟩ := p
    unfold Rep at rr
    exact ⟨b, rr, q _ (.b (!b)) M' H0' H' e s' (by unfold Rep; rfl) p⟩
theorem e_if (h : EvT L Γ M t fun b M1 => if b = true then Ev L Γ M1 ta P else Ev L Γ M1 tb P) : Ev L Γ M (tIf t ta tb) P := fun σ H0 H Q s g q =>
  h σ H0 H _ s g fun b M' H0' H' e s' p => by
    cases b with
    | true => exact p σ H0' H' Q s' (g.up e) fun v d M'' H0'' H'' e' => q v d M'' H0'' H'' (e.trans e')
    | false => exact p σ H0' H' Q s' (g.up e) fun v d M'' H0'' H'' e' => q v d M'' H0'' H'' (e.trans e')
theorem e_isN (h : Ev L Γ M ta fun d M1 => (d = .non → P (.b true) M1) ∧ (d ≠ .non → P (.b false) M1)) : Ev L Γ M (tIsN ta) P := fun σ H0 H Q s g q =>
  h σ H0 H _ s g fun v d M' H0' H' e s' rr p => by
    cases d with
    | non =>
      unfold Rep at rr
      subst rr
      exact q _ (.b true) M' H0' H' e s' (by unfold Rep; rfl) (p.1 rfl)
    | _ =>
      have p2 := p.2 (by intro z; cases z)
      refine q _ (.b false) M' H0' H' e s' ?_ p2
      unfold Rep at rr ⊢
      first
        | (subst rr; rfl)
        | (obtain ⟨_, _, rfl, _⟩ := rr; rfl)
        | (obtain ⟨_, _, _, rfl, _⟩ := rr; rfl)
theorem e_notN (h : Ev L Γ M ta fun d M1 => (d = .non → P (.b false) M1) ∧ (d ≠ .non → P (.b true) M1)) : Ev L Γ M (tNotN ta) P := fun σ H0 H Q s g q =>
  h σ H0 H _ s g fun v d M' H0' H' e s' rr p => by
    cases d with
    | non =>
      unfold Rep at rr
      subst rr
      exact q _ (.b false) M' H0' H' e s' (by unfold Rep; rfl) (p.1 rfl)
    | _ =>
      have p2 := p.2 (by intro z; cases z)
      refine q _ (.b true) M' H0' H' e s' ?_ p2
      unfold Rep at rr ⊢
      first
        | (subst rr; rfl)
        | (obtain ⟨_, _, rfl, _⟩ := rr; rfl)
        | (obtain ⟨_, _, _, rfl, _⟩ := rr; rfl)

/-! argument lists, tuples, lists -/
variable {PA' : List Dt → Mm → Prop} {tr : TA}
theorem a_nil (k : PA' [] M) : EvA L Γ M tNil PA' := fun σ H0 H Q s g q => q [] [] M H0 H (Same.refl H0) s repL_nil k
theorem a_cons (h : Ev L Γ M ta fun d M1 => EvA L Γ M1 tr fun ds M2 => PA' (d :: ds) M2) : EvA L Γ M (tCons ta tr) PA' := fun σ H0 H Q s g q =>
  h σ H0 H _ s g fun v d M' H0' H' e s' rr p => p σ H0' H' _ s' (g.up e) fun vs ds M'' H0'' H'' e' s'' rs p' =>
    q (v :: vs) (d :: ds) M'' H0'' H'' (e.trans e') s'' (repL_cons (rr.up e') rs) p'
theorem e_tup (h : EvA L Γ M tr fun ds M1 => ds.length ≤ 100000 ∧ P (.tup ds) M1) : Ev L Γ M (tTup tr) P := fun σ H0 H Q s g q =>
  h σ H0 H _ s g fun vs ds M' H0' H' e s' rs p => by
    refine ⟨Nat.le_trans (by rw [repL_len rs]; exact p.1) (by decide), fun a ha => ?_⟩
    have h0 := s'.fresh0 ha
    refine q _ (.tup ds) M' _ _ (e.trans (same_new h0)) (s'.newP ha) ?_ p.2
    unfold Rep
    exact ⟨a, vs, rfl, upd_same, rs.up (same_new h0)⟩
theorem e_lst (h : EvA L Γ M tr fun ds M1 => ds.length ≤ 100000 ∧ P (.lst ds) M1) : Ev L Γ M (tLst tr) P := fun σ H0 H Q s g q =>
  h σ H0 H _ s g fun vs ds M' H0' H' e s' rs p => by
    refine ⟨Nat.le_trans (by rw [repL_len rs]; exact p.1) (by decide), fun a ha => ?_⟩
    have h0 := s'.fresh0 ha
    refine q _ (.lst ds) M' _ _ (e.trans (same_new h0)) (s'.newP ha) ?_ p.2
    unfold Rep
    exact ⟨a, vs, rfl, upd_same, rs.up (same_new h0)⟩
/-- .. an own list -/
theorem e_lstO (h : EvA L Γ M tr fun ds M1 => ds.length ≤ 100000 ∧ ∀ a, M1 a = none → P (.adr a) (mset M1 a (.lst ds))) : Ev L Γ M (tLst tr) P := fun σ H0 H Q s g q =>
  h σ H0 H _ s g fun vs ds M' H0' H' e s' rs p => by
    refine ⟨Nat.le_trans (by rw [repL_len rs]; exact p.1) (by decide), fun a ha => ?_⟩
    refine q _ (.adr a) _ H0' _ e (s'.newM (d := .lst ds) ha ⟨vs, rfl, rs⟩) ?_ (p.2 a (s'.freshM ha))
    unfold Rep
    rfl
theorem e_dnewK (k : ∀ a, M a = none → P (.adr a) (mset M a (.dK []))) : Ev L Γ M tDNewK P := fun σ H0 H Q s g q a ha => by
  refine q _ (.adr a) _ H0 _ (Same.refl H0) (s.newM (d := .dK []) ha ⟨[], rfl, by unfold RepK; rfl⟩) ?_ (k a (s.freshM ha))
  unfold Rep
  rfl
theorem e_dnewT (k : ∀ a, M a = none → P (.adr a) (mset M a (.dT []))) : Ev L Γ M tDNewT P := fun σ H0 H Q s g q a ha => by
  refine q _ (.adr a) _ H0 _ (Same.refl H0) (s.newM (d := .dT []) ha ⟨[], rfl, by unfold RepT; rfl⟩) ?_ (k a (s.freshM ha))
  unfold Rep
  rfl

/-! fields -/
theorem repF_look {H : Hp} {f : Str} : ∀ {fs : List (Str × Dt)} {ws : List (Str × V)} {d : Dt}, RepF H fs ws → fs.lookup f = some d → ∃ v, ws.lookup f = some v ∧ Rep H d v
  | [], _, _, _, e => by cases e
  | (k, d) :: fs, _, e, h, q => by
    unfold RepF at h
    obtain ⟨x, r, rfl, h1, h2⟩ := h
    rw [List.lookup_cons] at q ⊢
    cases c : (f == k) with
    | true =>
      rw [c] at q
      cases q
      exact ⟨x, rfl, h1⟩
    | false =>
      rw [c] at q
      exact repF_look h2 q
theorem repF_none {H : Hp} {f : Str} : ∀ {fs : List (Str × Dt)} {ws : List (Str × V)}, RepF H fs ws → fs.lookup f = none → ws.lookup f = none
  | [], _, h, _ => by
    unfold RepF at h
    rw [h]
    rfl
  | (k, d) :: fs, _, h, q => by
    unfold RepF at h
    obtain ⟨x, r, rfl, h1, h2⟩ := h
    rw [List.lookup_cons] at q ⊢
    cases c : (f == k) with
    | true =>
      rw [c] at q
      cases q
    | false =>
      rw [c] at q
      exact repF_none h2 q
theorem e_fld {f : Str} (h : Ev L Γ M ta fun x M1 => ∃ C fs d, vw M1 x = .ins C fs ∧ Cls K C ∧ NoAttr K C f ∧ fs.lookup f = some d ∧ P d M1) : Ev L Γ M (tFld K ta f) P := fun σ H0 H Q s g q =>
  h σ H0 H _ s g fun v x M' H0' H' e s' rr p => by
    obtain ⟨C, fs, d, h1, h2, h3, h4, p⟩ := p
    obtain ⟨a, dx, ws, rfl, ha, hf⟩ := s'.ins rr h1
    obtain ⟨w, hw, rw'⟩ := repF_look hf h4
    exact ⟨a, C, dx, ws, w, rfl, ha, h2, h3, hw, q w d M' H0' H' e s' rw' p⟩
end
end K85
set_option maxRecDepth 100000
/-! Calls, statements, loops, comprehensions. -/
namespace K85
open PySem L2

/-! ### promises by pre and post -/
structure FS where
  α : Type
  pre : α → List Dt → Lk → Mm → Prop
  post : α → Mm → Dt → Mm → Prop
def FS.sp (S : FS) : Sp := fun vs H Q _ => ∃ (a : S.α) (L : Lk) (M : Mm) (H0 : Hp) (ds : List Dt), SV L M H0 H ∧ RepL H0 ds vs ∧ S.pre a ds L M ∧
  ∀ v d M' H0' H', Same H0 H0' → SV L M' H0' H' → Rep H0' d v → S.post a M d M' → Q v H'
/-- from data to data -/
def pureS (α : Type) (args : α → List Dt) (ok : α → Prop) (res : α → Dt) : FS := ⟨α, fun a ds _ _ => ds = args a ∧ ok a, fun a M d M' => d = res a ∧ M = M'⟩
def startG (N : List Str) (ds : List Dt) : Gm := ds.map some ++ List.replicate (N.length - ds.length) none
theorem sg_start {H0 : Hp} {N : List Str} {ds : List Dt} {vs : List V} (r : RepL H0 ds vs) : SG (startG N ds) (L2.start N vs) H0 := by
  have hl := repL_len r
  unfold startG L2.start
  refine ⟨by rw [List.length_append, List.length_append, List.length_map, List.length_map, List.length_replicate, List.length_replicate, hl], fun i d h => ?_⟩
  by_cases hi : i < ds.length
  · rw [List.getElem?_append_left (by simpa using hi), List.getElem?_map] at h
    cases q : ds[i]? with
    | none => rw [q] at h; cases h
    | some e =>
      rw [q] at h
      cases h
      obtain ⟨v, h1, h2⟩ := repL_get r q
      refine ⟨v, ?_, h2⟩
      rw [List.getElem?_append_left (by rw [List.length_map, hl]; exact hi), List.getElem?_map, h1]
      rfl
  · rw [List.getElem?_append_right (by simpa using Nat.le_of_not_lt hi)] at h
    rw [List.getElem?_replicate] at h
    split at h <;> cases h
section
variable {P : Program} {w : World} {K : PySem.W.Frag} {mg : Str → Option Value} {base : Heap}
theorem fn_sym {x qual : Str} {params : Arguments} {bd : List Stmt} {sc : Scope} {dvs : List V} {kws : List (Str × V)} {f : Addr} {fd : FuncData} {N ps : List Str} {k : Nat} {S : FS} (F : FunD K x qual params bd sc dvs kws f fd) (hS : FnScope N ps sc)
    (len : ∀ a ds L M, S.pre a ds L M → ds.length = ps.length)
    (hb : ∀ (cdv : Value) (A : Around) (outer : List Env) (s : Shared) (H : Hp) (E : XK), Room k (A.deeper (PyProof.Rows.envOfC qual sc s.heap.objs.size f cdv)) →
      ∃ t, PSs (cxOf CX0 P w K mg base N qual sc f cdv A outer s H E).nox bd t ∧ ∀ (a : S.α) ds L M, S.pre a ds L M → Run L (startG N ds) M t { nx := fun _ M' => S.post a M .non M', rt := fun d M' => S.post a M d M' }) : FnOk P w K mg base CX0 (k + 1) f fd ps S.sp := by
  refine F.ok hS (fun vs H Q E h => ?_) (fun cdv A outer s H vs Q E hr h => ?_)
  · obtain ⟨a, L, M, H0, ds, _, r, hp, _⟩ := h
    rw [repL_len r]
    exact len a ds L M hp
  · obtain ⟨a, L, M, H0, ds, sv, r, hp, q⟩ := h
    obtain ⟨t, h1, h2⟩ := hb cdv A outer s H E hr
    refine ⟨t, h1.nox, h2 a ds L M hp (L2.start N vs) H0 H _ sv (sg_start r) ⟨fun _ M' _ H0' H' e s' _ p => ?_, fun v d M' H0' H' e s' rr p => ?_, fun _ _ _ _ _ _ _ _ z => z.elim, fun _ _ _ _ _ _ _ _ z => z.elim⟩⟩
    · exact q .non .non M' H0' H' e s' (by unfold Rep; rfl) p
    · exact q v d M' H0' H' e s' rr p
end

section
variable {L : Lk} {Γ Γ' : Gm} {M M' : Mm} {ta tb tc te tv : TE} {t u : TT} {P : Dt → Mm → Prop} {r : R2} {K : PySem.W.Frag} {d : Dt} {tr : TA} {S : FS} {E : XK} {dvs : List V} {dds : List Dt} {C : Addr} {m : Str}
theorem e_call (hd : ∀ H, RepL H dds dvs) (h : EvA L Γ M tr fun ds M1 => ∃ a : S.α, S.pre a (ds ++ dds) L M1 ∧ ∀ d M', S.post a M1 d M' → P d M') : Ev L Γ M (tCall S.sp dvs E tr) P := fun σ H0 H Q s g q =>
  h σ H0 H _ s g fun vs ds M' H0' H' e s' rs p => by
    obtain ⟨a, p1, p2⟩ := p
    exact ⟨a, L, M', H0', ds ++ dds, s', repL_app rs (hd _), p1, fun v d M'' H0'' H'' e' s'' rr pp => q v d M'' H0'' H'' (e.trans e') s'' rr (p2 d M'' pp)⟩
theorem e_call0 (h : EvA L Γ M tr fun ds M1 => ∃ a : S.α, S.pre a ds L M1 ∧ ∀ d M', S.post a M1 d M' → P d M') : Ev L Γ M (tCall S.sp [] E tr) P :=
  e_call (dds := []) (fun _ => repL_nil) (fun σ H0 H Q s g q => h σ H0 H Q s g fun vs ds M' H0' H' e s' rs p => q vs ds M' H0' H' e s' rs (by show ∃ a, S.pre a (ds ++ []) L M' ∧ _; rw [List.append_nil]; exact p))
theorem e_meth0 (h : Ev L Γ M ta fun x M1 => ∃ fs, vw M1 x = .ins C fs ∧ fs.lookup m = none ∧ EvA L Γ M1 tr fun ds M2 => ∃ a : S.α, S.pre a (x :: ds) L M2 ∧ ∀ d M', S.post a M2 d M' → P d M') : Ev L Γ M (tMeth C m S.sp [] E ta tr) P := fun σ H0 H Q s g q =>
  h σ H0 H _ s g fun v x M1 H1 H1' e s1 rr p => by
    obtain ⟨fs, h1, h2, p⟩ := p
    obtain ⟨a, dx, ws, rfl, ha, hf⟩ := s1.ins rr h1
    refine ⟨a, dx, ws, rfl, ha, repF_none hf h2, p σ H1 H1' _ s1 (g.up e) fun vs ds M' H0' H' e' s' rs p => ?_⟩
    obtain ⟨b, p1, p2⟩ := p
    refine ⟨b, L, M', H0', x :: ds, s', ?_, p1, fun v d M'' H0'' H'' e'' s'' rr pp => q v d M'' H0'' H'' ((e.trans e').trans e'') s'' rr (p2 d M'' pp)⟩
    rw [List.append_nil]
    exact repL_cons (rr.up e') rs
theorem e_make (hd : ∀ H, RepL H dds dvs) (h : EvA L Γ M tr fun ds M1 => ∀ x, M1 x = none → ∃ a : S.α, S.pre a (.adr x :: (ds ++ dds)) L (mset M1 x (.ins C [])) ∧ ∀ d M', S.post a (mset M1 x (.ins C [])) d M' → d = .non ∧ P (.adr x) M') :
    Ev L Γ M (tMake C S.sp dvs E tr) P := fun σ H0 H Q s g q =>
  h σ H0 H _ s g fun vs ds M' H0' H' e s' rs p x dx hx hdx hne => by
    obtain ⟨a, p1, p2⟩ := p x (s'.freshM hx)
    have h0 := s'.fresh0 hdx
    have s2 := (s'.newP (o := .own x) hdx).newM (p := x) (d := .ins C []) (u := .ins C dx []) (by rw [upd_ne hne.symm]; exact hx) ⟨dx, [], rfl, by unfold RepF; rfl⟩
    refine ⟨a, L, _, _, .adr x :: (ds ++ dds), s2, repL_cons (by unfold Rep; rfl) (repL_app (rs.up (same_new h0)) (hd _)), p1, fun v d M'' H0'' H'' e' s'' rr pp => ?_⟩
    obtain ⟨rfl, pq⟩ := p2 d M'' pp
    have hv : v = .non := by
      unfold Rep at rr
      exact rr
    exact ⟨hv, q _ (.adr x) M'' H0'' H'' ((e.trans (same_new h0)).trans e') s'' (by unfold Rep; rfl) pq⟩
/-- what was owned is data from here on -/
theorem e_frz (h : Ev L Γ M te fun x M1 => ∃ a d, x = .adr a ∧ M1 a = some d ∧ P d (mdel M1 a)) : Ev L Γ M te P := fun σ H0 H Q s g q =>
  h σ H0 H _ s g fun v x M1 H1 H1' e s1 rr p => by
    obtain ⟨a, d, rfl, h1, p⟩ := p
    obtain ⟨H2, e2, s2, r2⟩ := s1.frz h1
    have hv : v = .ref a := by
      unfold Rep at rr
      exact rr
    subst hv
    exact q _ d _ H2 H1' (e.trans e2) s2 r2 p
theorem e_cb {r : List V → Hp → VK → Prop} (h : EvA L Γ M tr fun ds M1 => Cb L M1 r ds P) : Ev L Γ M (tCB r tr) P := fun σ H0 H Q s g q =>
  h σ H0 H _ s g fun vs ds M' H0' H' e s' rs p => p H0' H' vs Q s' rs fun z d M'' H0'' H'' e' s'' rr pp => q z d M'' H0'' H'' (e.trans e') s'' rr pp
/-- a list's own method -/
theorem e_bm {r : V → List V → Hp → VK → Prop} (h : Ev L Γ M ta fun x M1 => ∃ ds, vw M1 x = .lst ds ∧ EvA L Γ M1 tr fun es M2 => Mt L M2 r x es P) : Ev L Γ M (tBM K "list" r ta tr) P := fun σ H0 H Q s g q =>
  h σ H0 H _ s g fun v x M1 H1 H1' e s1 rr p => by
    obtain ⟨ds, h1, p⟩ := p
    obtain ⟨a, xs, rfl, ha, hr⟩ := s1.lst rr h1
    refine ⟨.inl ⟨rfl, xs, SqL.of ha⟩, p σ H1 H1' _ s1 (g.up e) fun vs es M' H0' H' e' s' rs p => ?_⟩
    exact p H0' H' _ vs Q s' (rr.up e') rs fun z d M'' H0'' H'' e'' s'' rr pp => q z d M'' H0'' H'' ((e.trans e').trans e'') s'' rr pp

/-! ### statements -/
variable {Es' : Es} {ts us : TS} {g : TG}
theorem r_next (h : Es'.nx Γ M) : Run L Γ M tNext Es' := fun σ H0 H D s g o => o.nx Γ M σ H0 H (Same.refl H0) s g h
theorem r_seq (h : Run L Γ M ts { Es' with nx := fun Γ' M' => Run L Γ' M' us Es' }) : Run L Γ M (tSeq ts us) Es' := fun σ H0 H D s g o =>
  h σ H0 H { D with nx := us D } s g ⟨fun Γ' M' σ' H0' H' e s' g' p => p σ' H0' H' D s' g' (o.up e), o.rt, o.bk, o.ct⟩
theorem r_asg (h : Ev L Γ M te fun d M1 => Gv L Γ M1 g d Es'.nx) : Run L Γ M (tAsg te g) Es' := fun σ H0 H D s gg o =>
  h σ H0 H _ s gg fun v d M1 H1 H1' e s1 rr p => p σ H1 H1' v _ s1 (gg.up e) rr fun Γ' M' σ' H0' H' e' s' g' pp => o.nx Γ' M' σ' H0' H' (e.trans e') s' g' pp
theorem g_name {i : Nat} {PG : Gm → Mm → Prop} (h : PG (Γ.set i (some d)) M) : Gv L Γ M (gName i) d PG := fun σ H0 H v Q s g rr q => q _ M _ H0 H (Same.refl H0) s (g.set i rr) h
theorem g_nil {PG : Gm → Mm → Prop} (h : PG Γ M) : Gvs L Γ M gNil [] PG := fun σ H0 H vs Q s g rr q => by
  unfold RepL at rr
  exact ⟨rr, q Γ M σ H0 H (Same.refl H0) s g h⟩
theorem g_cons {gs : TGs} {ds : List Dt} {PG : Gm → Mm → Prop} (h : Gv L Γ M g d fun Γ1 M1 => Gvs L Γ1 M1 gs ds PG) : Gvs L Γ M (gCons g gs) (d :: ds) PG := fun σ H0 H vs Q s gg rr q => by
  unfold RepL at rr
  obtain ⟨x, rs, rfl, r1, r2⟩ := rr
  exact ⟨x, rs, rfl, h σ H0 H x _ s gg r1 fun Γ' M' σ' H0' H' e s' g' p => p σ' H0' H' rs Q s' g' (r2.up e) fun Γ2 M2 σ2 H2 H2' e2 s2 g2 p2 => q Γ2 M2 σ2 H2 H2' (e.trans e2) s2 g2 p2⟩
theorem g_tup {gs : TGs} {n : Nat} {PG : Gm → Mm → Prop} (h : ∃ ds, d = .tup ds ∧ ds.length = n ∧ Gvs L Γ M gs ds PG) : Gv L Γ M (gTup K n gs) d PG := fun σ H0 H v Q s gg rr q => by
  obtain ⟨ds, rfl, hn, h⟩ := h
  obtain ⟨a, xs, rfl, _, ha, hr⟩ := s.tup (d := .tup ds) rr rfl
  exact ⟨a, xs, rfl, SqT.of ha, by rw [repL_len hr, hn], h σ H0 H xs Q s gg hr q⟩
theorem g_unl {gs : TGs} {n : Nat} {PG : Gm → Mm → Prop} (h : ∃ ds, vw M d = .lst ds ∧ ds.length = n ∧ Gvs L Γ M gs ds PG) : Gv L Γ M (gUnl K n gs) d PG := fun σ H0 H v Q s gg rr q => by
  obtain ⟨ds, hv, hn, h⟩ := h
  obtain ⟨a, xs, rfl, ha, hr⟩ := s.lst rr hv
  exact ⟨a, xs, rfl, SqL.of ha, by rw [repL_len hr, hn], h σ H0 H xs Q s gg hr q⟩
theorem r_ret (h : Ev L Γ M te Es'.rt) : Run L Γ M (tRet te) Es' := fun σ H0 H D s g o => h σ H0 H _ s g o.rt
theorem r_retN (h : Es'.rt .non M) : Run L Γ M tRetN Es' := fun σ H0 H D s g o => o.rt .non .non M H0 H (Same.refl H0) s (by unfold Rep; rfl) h
theorem r_if (h : EvT L Γ M t fun b M1 => if b = true then Run L Γ M1 ts Es' else Run L Γ M1 us Es') : Run L Γ M (tIfS t ts us) Es' := fun σ H0 H D s g o =>
  h σ H0 H _ s g fun b M1 H1 H1' e s1 p => by
    cases b with
    | true => exact p σ H1 H1' D s1 (g.up e) (o.up e)
    | false => exact p σ H1 H1' D s1 (g.up e) (o.up e)
theorem r_drop (h : Ev L Γ M te fun _ M1 => Es'.nx Γ M1) : Run L Γ M (tDrop te) Es' := fun σ H0 H D s g o =>
  h σ H0 H _ s g fun v d M1 H1 H1' e s1 rr p => o.nx Γ M1 σ H1 H1' e s1 (g.up e) p
theorem r_brk (h : Es'.bk Γ M) : Run L Γ M tBreak Es' := fun σ H0 H D s g o => o.bk Γ M σ H0 H (Same.refl H0) s g h
theorem r_cont (h : Es'.ct Γ M) : Run L Γ M tCont Es' := fun σ H0 H D s g o => o.ct Γ M σ H0 H (Same.refl H0) s g h
/-- the ends weakened -/
theorem Run.mono {E2 : Es} (h : Run L Γ M ts Es') (h1 : ∀ Γ' M', Es'.nx Γ' M' → E2.nx Γ' M') (h2 : ∀ d M', Es'.rt d M' → E2.rt d M') (h3 : ∀ Γ' M', Es'.bk Γ' M' → E2.bk Γ' M') (h4 : ∀ Γ' M', Es'.ct Γ' M' → E2.ct Γ' M') : Run L Γ M ts E2 := fun σ H0 H D s g o =>
  h σ H0 H D s g ⟨fun _ _ _ _ _ e s' g' p => o.nx _ _ _ _ _ e s' g' (h1 _ _ p), fun _ _ _ _ _ e s' g' p => o.rt _ _ _ _ _ e s' g' (h2 _ _ p), fun _ _ _ _ _ e s' g' p => o.bk _ _ _ _ _ e s' g' (h3 _ _ p), fun _ _ _ _ _ e s' g' p => o.ct _ _ _ _ _ e s' g' (h4 _ _ p)⟩
/-- another view of the same state -/
def Vw (L : Lk) (Γ : Gm) (M : Mm) (Γ' : Gm) (M' : Mm) : Prop := ∀ σ H0 H, SV L M H0 H → SG Γ σ H0 → ∃ H1, Same H0 H1 ∧ SV L M' H1 H ∧ SG Γ' σ H1
theorem r_vw (v : Vw L Γ M Γ' M') (h : Run L Γ' M' ts Es') : Run L Γ M ts Es' := fun σ H0 H D s g o => by
  obtain ⟨H1, e, s1, g1⟩ := v σ H0 H s g
  exact h σ H1 H D s1 g1 (o.up e)
theorem Ev.vw (v : Vw L Γ M Γ' M') (h : Ev L Γ' M' te P) : Ev L Γ M te P := fun σ H0 H Q s g q => by
  obtain ⟨H1, e, s1, g1⟩ := v σ H0 H s g
  exact h σ H1 H Q s1 g1 fun v d M2 H2 H2' e2 => q v d M2 H2 H2' (e.trans e2)

/-- o.f = e -/
def putD (f : Str) (d : Dt) : List (Str × Dt) → List (Str × Dt)
  | [] => [(f, d)]
  | (g, x) :: r => if g = f then (g, d) :: r else (g, x) :: putD f d r
theorem repF_put {H : Hp} {f : Str} {d : Dt} {v : V} (r : Rep H d v) : ∀ {fs : List (Str × Dt)} {ws : List (Str × V)}, RepF H fs ws → RepF H (putD f d fs) (putF f v ws)
  | [], _, h => by
    unfold RepF at h
    subst h
    unfold putD putF RepF
    refine ⟨v, [], rfl, r, ?_⟩
    unfold RepF
    rfl
  | (k, x) :: fs, _, h => by
    unfold RepF at h
    obtain ⟨y, rs, rfl, h1, h2⟩ := h
    unfold putD putF
    by_cases hk : k = f
    · rw [if_pos hk, if_pos hk]
      unfold RepF
      exact ⟨v, rs, rfl, r, h2⟩
    · rw [if_neg hk, if_neg hk]
      unfold RepF
      exact ⟨y, _, rfl, h1, repF_put r h2⟩
theorem repF_len {H : Hp} : ∀ {fs : List (Str × Dt)} {ws : List (Str × V)}, RepF H fs ws → ws.length = fs.length
  | [], _, h => by
    unfold RepF at h
    subst h
    rfl
  | (k, x) :: fs, _, h => by
    unfold RepF at h
    obtain ⟨y, rs, rfl, h1, h2⟩ := h
    rw [List.length_cons, List.length_cons, repF_len h2]
theorem r_fld {f : Str} (h : Ev L Γ M tv fun y M1 => Ev L Γ M1 ta fun x M2 => ∃ a C fs, x = .adr a ∧ M2 a = some (.ins C fs) ∧ Cls K C ∧ NoAttr K C f ∧ fs.length < 1000 ∧ Es'.nx Γ (mset M2 a (.ins C (putD f y fs)))) : Run L Γ M (sFld K ta tv f) Es' := fun σ H0 H D s g o =>
  h σ H0 H _ s g fun v y M1 H1 H1' e1 s1 r1 p => p σ H1 H1' _ s1 (g.up e1) fun w x M2 H2 H2' e2 s2 r2 p => by
    obtain ⟨a, C, fs, rfl, hM, c, n, hl, p⟩ := p
    obtain ⟨h0, u, hu, dx, ws, rfl, hf⟩ := s2.own a _ hM
    have hw : w = .ref a := by
      unfold Rep at r2
      exact r2
    subst hw
    refine ⟨a, C, dx, ws, rfl, hu, c, n, by rw [repF_len hf]; exact hl, ?_⟩
    exact o.nx Γ _ σ H2 _ (e1.trans e2) (s2.wr (d := .ins C (putD f y fs)) (u := .ins C dx (putF f v ws)) hM ⟨dx, _, rfl, repF_put (r1.up e2) hf⟩) (g.up (e1.trans e2)) p

/-! ### what is walked -/
def Yl (L : Lk) (J : It) (H0 : Hp) (ds : List Dt) : Prop := ∀ H0' M H, Same H0 H0' → SV L M H0' H → (∀ i, i < ds.length → J.go i H) ∧ (∀ i, ds.length ≤ i → J.stop i H) ∧
  ∀ i d x H', ds[i]? = some d → J.yld i H x H' → ∃ H0'', Same H0' H0'' ∧ SV L M H0'' H' ∧ Rep H0'' d x
def Iv (L : Lk) (Γ : Gm) (M : Mm) (wi : TI) (P : List Dt → Mm → Prop) : Prop := ∀ σ H0 H (R : It → Hp → Prop), SV L M H0 H → SG Γ σ H0 →
  (∀ J ds M' H0' H', Same H0 H0' → SV L M' H0' H' → Yl L J H0' ds → P ds M' → R J H') → wi σ H R
theorem Yl.up {J : It} {H0 H1 : Hp} {ds : List Dt} (e : Same H0 H1) (y : Yl L J H0 ds) : Yl L J H1 ds := fun H0' M H e' s => y H0' M H (e.trans e') s
theorem yl_list {a : Addr} {xs : List V} {ds : List Dt} {H0 : Hp} (ha : H0 a = some (.lst xs)) (hr : RepL H0 ds xs) : Yl L (Itl K a) H0 ds := fun H0' M H e s => by
  have hd : Rep H0' (.lst ds) (.ref a) := by
    unfold Rep
    exact ⟨a, xs, rfl, e _ _ ha, hr.up e⟩
  have hH : H a = some (.lst xs) := by
    rcases s.per a _ (e _ _ ha) with ⟨o, q, _⟩ | ⟨_, q⟩
    · obtain ⟨u, q1, q2⟩ := s.lkd a o q
      rw [e _ _ ha] at q1; cases q1
      rcases q2.1 with ⟨_, q2⟩ | ⟨_, q2⟩ <;> cases q2
    · exact q
  have hl := repL_len hr
  refine ⟨fun i hi => ⟨xs, xs[i]'(by omega), SqL.of hH, by rw [List.getElem?_eq_getElem]⟩, fun i hi => ⟨xs, SqL.of hH, by omega⟩, fun i d x H' hd' y => ?_⟩
  obtain ⟨rfl, y⟩ := y
  obtain ⟨v, h1, h2⟩ := repL_get hr hd'
  have := y xs (SqL.of hH)
  rw [h1] at this
  cases this
  exact ⟨H0', Same.refl _, s, h2.up e⟩
theorem yl_tup {a : Addr} {xs : List V} {ds : List Dt} {H0 : Hp} (ha : H0 a = some (.tup xs)) (hr : RepL H0 ds xs) : Yl L (Itt K a) H0 ds := fun H0' M H e s => by
  have hH : H a = some (.tup xs) := by
    rcases s.per a _ (e _ _ ha) with ⟨o, q, _⟩ | ⟨_, q⟩
    · obtain ⟨u, q1, q2⟩ := s.lkd a o q
      rw [e _ _ ha] at q1; cases q1
      rcases q2.1 with ⟨_, q2⟩ | ⟨_, q2⟩ <;> cases q2
    · exact q
  have hl := repL_len hr
  refine ⟨fun i hi => ⟨xs, xs[i]'(by omega), SqT.of hH, by rw [List.getElem?_eq_getElem]⟩, fun i hi => ⟨xs, SqT.of hH, by omega⟩, fun i d x H' hd' y => ?_⟩
  obtain ⟨rfl, y⟩ := y
  obtain ⟨v, h1, h2⟩ := repL_get hr hd'
  have := y xs (SqT.of hH)
  rw [h1] at this
  cases this
  exact ⟨H0', Same.refl _, s, h2.up e⟩
theorem i_list {PI' : List Dt → Mm → Prop} (h : Ev L Γ M ta fun x M1 => ∃ ds, x = .lst ds ∧ PI' ds M1) : Iv L Γ M (iList K ta) PI' := fun σ H0 H R s g q =>
  h σ H0 H _ s g fun v x M1 H1 H1' e s1 rr p => by
    obtain ⟨ds, rfl, p⟩ := p
    have rr' := rr
    unfold Rep at rr
    obtain ⟨a, xs, rfl, ha, hr⟩ := rr
    obtain ⟨a', xs', e1, ha', _⟩ := s1.lst rr' rfl
    cases e1
    exact ⟨a, rfl, ⟨xs', SqL.of ha'⟩, q _ ds M1 H1 H1' e s1 (yl_list ha hr) p⟩
theorem i_tup {PI' : List Dt → Mm → Prop} (h : Ev L Γ M ta fun x M1 => ∃ ds, x = .tup ds ∧ PI' ds M1) : Iv L Γ M (iTup K ta) PI' := fun σ H0 H R s g q =>
  h σ H0 H _ s g fun v x M1 H1 H1' e s1 rr p => by
    obtain ⟨ds, rfl, p⟩ := p
    obtain ⟨a, xs, rfl, ha, ha', hr⟩ := s1.tup rr rfl
    exact ⟨a, rfl, ⟨xs, SqT.of ha'⟩, q _ ds M1 H1 H1' e s1 (yl_tup ha hr) p⟩
def rngD (n : Nat) : List Dt := (List.range n).map fun k => Dt.i ((k : Nat) : Int)
theorem yl_rng {n : Nat} {H0 : Hp} : Yl L (Itr 0 n) H0 (rngD n) := fun H0' M H e s => by
  have hl : (rngD n).length = n := by unfold rngD; rw [List.length_map, List.length_range]
  refine ⟨fun i hi => by rw [hl] at hi; exact hi, fun i hi => by rw [hl] at hi; exact hi, fun i d x H' hd y => ?_⟩
  obtain ⟨rfl, rfl⟩ := y
  unfold rngD at hd
  rw [List.getElem?_map] at hd
  cases q : (List.range n)[i]? with
  | none => rw [q] at hd; cases hd
  | some k =>
    rw [q] at hd
    cases hd
    have hk := (List.getElem?_eq_some_iff.mp q).2
    rw [List.getElem_range] at hk
    subst hk
    exact ⟨H0', Same.refl _, s, by unfold Rep; rw [Int.zero_add]⟩
theorem i_rng1 {PI' : List Dt → Mm → Prop} (h : EvA L Γ M tr fun ds M1 => ∃ n : Int, ds = [.i n] ∧ 0 ≤ n ∧ n ≤ 1000000 ∧ PI' (rngD n.toNat) M1) : Iv L Γ M (iRng1 tr) PI' := fun σ H0 H R s g q =>
  h σ H0 H _ s g fun vs ds M1 H1 H1' e s1 rr p => by
    obtain ⟨n, rfl, h1, h2, p⟩ := p
    unfold RepL at rr
    obtain ⟨x, rs, rfl, r1, r2⟩ := rr
    unfold Rep at r1
    unfold RepL at r2
    subst r1 r2
    exact ⟨n, rfl, by omega, by omega, q _ _ M1 H1 H1' e s1 yl_rng p⟩
theorem r_for {wi : TI} {tb : TS} (h : Iv L Γ M wi fun ds M1 => ∃ I : Nat → Gm → Mm → Prop, I 0 Γ M1 ∧
    (∀ i d Γ' M', ds[i]? = some d → I i Γ' M' → Gv L Γ' M' g d fun Γ2 M2 => Run L Γ2 M2 tb { Es' with nx := I (i + 1), ct := I (i + 1), bk := Es'.nx }) ∧ ∀ Γ' M', I ds.length Γ' M' → Es'.nx Γ' M') :
    Run L Γ M (tFor wi g tb) Es' := fun σ H0 H D s gg o =>
  h σ H0 H _ s gg fun J ds M1 H1 H1' e s1 y p => by
    obtain ⟨I, i0, st, dn⟩ := p
    refine ⟨fun i m σ' H' => m = ds.length - i ∧ i ≤ ds.length ∧ ∃ Γ' M' H0', Same H1 H0' ∧ SV L M' H0' H' ∧ SG Γ' σ' H0' ∧ I i Γ' M', ⟨ds.length, by simp, Nat.zero_le _, Γ, M1, H1, Same.refl _, s1, gg.up e, i0⟩, ?_⟩
    rintro i m σ' H' ⟨rfl, hi, Γ', M', H0', e', s', g', ii⟩
    obtain ⟨y1, y2, y3⟩ := y H0' M' H' e' s'
    by_cases hlt : i < ds.length
    · refine .inr ⟨y1 i hlt, fun σ2 H2 => ∃ Γ2 M2 H02, Same H1 H02 ∧ SV L M2 H02 H2 ∧ SG Γ2 σ2 H02 ∧ I (i + 1) Γ2 M2, fun σ2 H2 w => ⟨ds.length - (i + 1), by omega, rfl, hlt, w⟩, fun x H'' yy => ?_⟩
      have hd : ds[i]? = some ds[i] := List.getElem?_eq_getElem hlt
      obtain ⟨H3, e3, s3, r3⟩ := y3 i _ x H'' hd yy
      refine st i _ Γ' M' hd ii σ' H3 H'' x _ s3 (g'.up e3) r3 fun Γ2 M2 σ2 H4 H4' e4 s4 g4 rr => ?_
      refine rr σ2 H4 H4' _ s4 g4 ⟨fun Γ5 M5 σ5 H5 H5' e5 s5 g5 p5 => ⟨Γ5, M5, H5, ((e'.trans e3).trans e4).trans e5, s5, g5, p5⟩, fun v d M5 H5 H5' e5 s5 r5 p5 => o.rt v d M5 H5 H5' ((((e.trans e').trans e3).trans e4).trans e5) s5 r5 p5,
        fun Γ5 M5 σ5 H5 H5' e5 s5 g5 p5 => o.nx Γ5 M5 σ5 H5 H5' ((((e.trans e').trans e3).trans e4).trans e5) s5 g5 p5, fun Γ5 M5 σ5 H5 H5' e5 s5 g5 p5 => ⟨Γ5, M5, H5, ((e'.trans e3).trans e4).trans e5, s5, g5, p5⟩⟩
    · have hi' : i = ds.length := by omega
      subst hi'
      exact .inl ⟨y2 _ (Nat.le_refl _), o.nx Γ' M' σ' H0' H' (e.trans e') s' g' (dn Γ' M' ii)⟩
theorem r_while {tb : TS} (W : Nat → Gm → Mm → Prop) (m0 : Nat) (h0 : W m0 Γ M)
    (h : ∀ m Γ' M', W m Γ' M' → EvT L Γ' M' t fun b M1 => if b = true then Run L Γ' M1 tb { Es' with nx := fun Γ2 M2 => ∃ m', m' < m ∧ W m' Γ2 M2, ct := fun Γ2 M2 => ∃ m', m' < m ∧ W m' Γ2 M2, bk := Es'.nx } else Es'.nx Γ' M1) :
    Run L Γ M (tWhile t tb) Es' := fun σ H0 H D s g o => by
  refine ⟨fun m σ' H' => ∃ Γ' M' H0', Same H0 H0' ∧ SV L M' H0' H' ∧ SG Γ' σ' H0' ∧ W m Γ' M', ⟨m0, Γ, M, H0, Same.refl _, s, g, h0⟩, ?_⟩
  rintro m σ' H' ⟨Γ', M', H0', e', s', g', ww⟩
  refine h m Γ' M' ww σ' H0' H' _ s' g' fun b M1 H1 H1' e1 s1 p => ?_
  cases b with
  | true =>
    rw [if_pos rfl]
    refine ⟨fun σ2 H2 => ∃ Γ2 M2 H02, Same H0 H02 ∧ SV L M2 H02 H2 ∧ SG Γ2 σ2 H02 ∧ ∃ m', m' < m ∧ W m' Γ2 M2, fun σ2 H2 ⟨Γ2, M2, H02, a1, a2, a3, m', a4, a5⟩ => ⟨m', a4, Γ2, M2, H02, a1, a2, a3, a5⟩, ?_⟩
    refine p σ' H1 H1' _ s1 (g'.up e1) ⟨fun Γ5 M5 σ5 H5 H5' e5 s5 g5 p5 => ⟨Γ5, M5, H5, (e'.trans e1).trans e5, s5, g5, p5⟩, fun v d M5 H5 H5' e5 s5 r5 p5 => o.rt v d M5 H5 H5' ((e'.trans e1).trans e5) s5 r5 p5,
      fun Γ5 M5 σ5 H5 H5' e5 s5 g5 p5 => o.nx Γ5 M5 σ5 H5 H5' ((e'.trans e1).trans e5) s5 g5 p5, fun Γ5 M5 σ5 H5 H5' e5 s5 g5 p5 => ⟨Γ5, M5, H5, (e'.trans e1).trans e5, s5, g5, p5⟩⟩
  | false =>
    rw [if_neg Bool.false_ne_true]
    exact o.nx Γ' M1 σ' H1 H1' (e'.trans e1) s1 (g'.up e1) p
end
end K85
set_option maxRecDepth 100000
/-! Comprehensions, dicts, operators. -/
namespace K85
open PySem L2

def Le (M M' : Mm) : Prop := ∀ a d, M a = some d → M' a = some d
theorem Le.rfl' {M : Mm} : Le M M := fun _ _ h => h
theorem Le.trans {M M1 M2 : Mm} (a : Le M M1) (b : Le M1 M2) : Le M M2 := fun x d h => b x d (a x d h)
theorem Le.new {M : Mm} {a : Addr} {d : Dt} (h : M a = none) : Le M (mset M a d) := fun b e q => by
  by_cases hb : b = a
  · subst hb
    rw [h] at q; cases q
  · rw [mset_ne hb]
    exact q
theorem vw_le {M M' : Mm} (l : Le M M') {x e : Dt} (h : vw M x = e) (hn : ∀ b, e ≠ .adr b) : vw M' x = e := by
  rcases vw_of h hn with rfl | ⟨a, rfl, q⟩
  · cases x with
    | adr b => exact absurd rfl (hn b)
    | _ => rfl
  · show (M' a).getD (.adr a) = e
    rw [l a e q]
    rfl
def wipeG (Γ : Gm) : List Nat → Gm
  | [] => Γ
  | v :: vs => (wipeG Γ vs).set v none
theorem sg_wipe {Γ : Gm} {σ : L2.St} {H0 : Hp} (g : SG Γ σ H0) : ∀ vs : List Nat, SG (wipeG Γ vs) (wipe σ vs) H0
  | [] => g
  | v :: vs => (sg_wipe g vs).unset v none
theorem wipe_set {σ : L2.St} {j : Nat} {o : Option V} : ∀ {vs : List Nat}, j ∈ vs → wipe (σ.set j o) vs = wipe σ vs
  | v :: vs, h => by
    show (wipe (σ.set j o) vs).set v none = (wipe σ vs).set v none
    by_cases hj : j ∈ vs
    · rw [wipe_set hj]
    · have hv : j = v := by
        rcases List.mem_cons.mp h with h | h
        · exact h
        · exact absurd h hj
      subst hv
      have key : ∀ us : List Nat, j ∉ us → wipe (σ.set j o) us = (wipe σ us).set j o := by
        intro us
        induction us with
        | nil => intro _; rfl
        | cons u us ih =>
          intro hu
          show (wipe (σ.set j o) us).set u none = ((wipe σ us).set u none).set j o
          rw [ih (fun z => hu (List.mem_cons_of_mem _ z)), List.set_comm _ _ (fun z => hu (by rw [z]; exact List.mem_cons_self))]
      rw [key vs hj, List.set_set]
theorem wipe_wipe {σ : L2.St} : ∀ (vs us : List Nat), (∀ v ∈ vs, v ∈ us) → wipe (wipe σ vs) us = wipe σ us
  | [], us, _ => rfl
  | v :: vs, us, h => by
    show wipe ((wipe σ vs).set v none) us = wipe σ us
    rw [wipe_set (h v List.mem_cons_self), wipe_wipe vs us (fun x hx => h x (List.mem_cons_of_mem _ hx))]
/-- a target that stores into these slots alone -/
def Wo (vs : List Nat) (g : TG) : Prop := ∀ v σ H Q, g v σ H Q → g v σ H fun σ2 H2 => wipe σ2 vs = wipe σ vs ∧ Q σ2 H2
def Wos (vs : List Nat) (g : TGs) : Prop := ∀ v σ H Q, g v σ H Q → g v σ H fun σ2 H2 => wipe σ2 vs = wipe σ vs ∧ Q σ2 H2
theorem wo_name {vs : List Nat} {j : Nat} (h : j ∈ vs) : Wo vs (gName j) := fun _ _ _ _ q => ⟨wipe_set h, q⟩
theorem wos_nil {vs : List Nat} : Wos vs gNil := fun _ _ _ _ q => ⟨q.1, rfl, q.2⟩
theorem wos_cons {vs : List Nat} {j : Nat} {gs : TGs} (h : j ∈ vs) (k : Wos vs gs) : Wos vs (gCons (gName j) gs) := fun _ σ H Q q => by
  obtain ⟨v, r, e, q⟩ := q
  refine ⟨v, r, e, ?_⟩
  have := k r (σ.set j (some v)) H Q q
  rw [wipe_set h] at this
  exact this
theorem wo_tup {vs : List Nat} {K : PySem.W.Frag} {n : Nat} {gs : TGs} (k : Wos vs gs) : Wo vs (gTup K n gs) := fun _ σ H Q q => by
  obtain ⟨a, xs, e, h1, h2, q⟩ := q
  exact ⟨a, xs, e, h1, h2, k xs σ H Q q⟩

section
variable {L : Lk} {Γ Γ' : Gm} {M M' : Mm} {ta tb tc te tv : TE} {t u : TT} {P : Dt → Mm → Prop} {r : R2} {K : PySem.W.Frag} {d : Dt} {tr : TA} {g : TG} {vs : List Nat} {wi : TI}
/-- the body of a list comprehension, for its iterator -/
theorem lc_body {J : It} {ds : List Dt} {H1 H1' : Hp} {σ : L2.St} {D : Addr} {Q : VK} (wk : Wo vs g) (gg : SG Γ σ H1) (s1 : SV L M H1 H1') (y : Yl L J H1 ds) (hD : H1' D = none)
    (p : ∃ I : Nat → Mm → Prop, I 0 (mset M D (.lst [])) ∧
      (∀ i d M', ds[i]? = some d → I i M' → Gv L (wipeG Γ vs) M' g d fun Γ2 M2 => EvT L Γ2 M2 t fun b M3 => if b = true then Ev L Γ2 M3 te fun y M4 => ∃ acc, M4 D = some (.lst acc) ∧ acc.length < 100000 ∧ I (i + 1) (mset M4 D (.lst (acc ++ [y]))) else I (i + 1) M3) ∧
      ∀ M', I ds.length M' → P (.adr D) M')
    (q : ∀ v d M' H0' H', Same H1 H0' → SV L M' H0' H' → Rep H0' d v → P d M' → Q v H') :
    ∃ W : Nat → Nat → Hp → Prop, (∃ m, W 0 m (upd H1' D (.lst []))) ∧ ∀ i m H, W i m H →
      (J.stop i H ∧ Q (.ref D) H) ∨ (J.go i H ∧ ∃ Nx : Hp → Prop, (∀ H', Nx H' → ∃ m', m' < m ∧ W (i + 1) m' H') ∧ ∀ x H', J.yld i H x H' → g x (wipe σ vs) H' fun σ2 H2 => wipe σ2 vs = wipe σ vs ∧ t σ2 H2 fun b H3 =>
        if b = true then te σ2 H3 fun y H4 => ∃ acc, H4 D = some (.lst acc) ∧ acc.length < sizeLine ∧ Nx (upd H4 D (.lst (acc ++ [y]))) else Nx H3) := by
  obtain ⟨I, i0, st, dn⟩ := p
  refine ⟨fun i m H' => m = ds.length - i ∧ i ≤ ds.length ∧ ∃ M' H0', Same H1 H0' ∧ SV L M' H0' H' ∧ I i M', ⟨ds.length, by simp, Nat.zero_le _, _, H1, Same.refl _, s1.newM (d := .lst []) (u := .lst []) hD ⟨[], rfl, repL_nil⟩, i0⟩, ?_⟩
  rintro i m H' ⟨rfl, hi, M', H0', e', s', ii⟩
  obtain ⟨y1, y2, y3⟩ := y H0' M' H' e' s'
  by_cases hlt : i < ds.length
  · refine .inr ⟨y1 i hlt, fun H2 => ∃ M2 H02, Same H1 H02 ∧ SV L M2 H02 H2 ∧ I (i + 1) M2, fun H2 w => ⟨ds.length - (i + 1), by omega, rfl, hlt, w⟩, fun x H'' yy => ?_⟩
    have hd : ds[i]? = some ds[i] := List.getElem?_eq_getElem hlt
    obtain ⟨H3, e3, s3, r3⟩ := y3 i _ x H'' hd yy
    have tg := wk x (wipe σ vs) H'' _ (st i _ M' hd ii (wipe σ vs) H3 H'' x (fun σ2 H2 => t σ2 H2 fun b H3 => if b = true then te σ2 H3 fun y H4 => ∃ acc, H4 D = some (.lst acc) ∧ acc.length < sizeLine ∧ (fun H2 => ∃ M2 H02, Same H1 H02 ∧ SV L M2 H02 H2 ∧ I (i + 1) M2) (upd H4 D (.lst (acc ++ [y]))) else (fun H2 => ∃ M2 H02, Same H1 H02 ∧ SV L M2 H02 H2 ∧ I (i + 1) M2) H3) s3 ((sg_wipe (gg.up (e'.trans e3)) vs)) r3 ?_)
    · rw [wipe_wipe vs vs (fun _ h => h)] at tg
      exact tg
    · intro Γ2 M2 σ2 H4 H4' e4 s4 g4 rr
      refine rr σ2 H4 H4' _ s4 g4 fun b M5 H5 H5' e5 s5 p5 => ?_
      cases b with
      | false => exact ⟨M5, H5, ((e'.trans e3).trans e4).trans e5, s5, p5⟩
      | true =>
        refine p5 σ2 H5 H5' _ s5 (g4.up e5) fun yv yd M6 H6 H6' e6 s6 r6 p6 => ?_
        obtain ⟨acc, hM, hl, p6⟩ := p6
        obtain ⟨h0, uu, hu, xs, rfl, hf⟩ := s6.own D _ hM
        refine ⟨xs, hu, Nat.lt_of_lt_of_le (by rw [repL_len hf]; exact hl) (by decide), _, H6, (((e'.trans e3).trans e4).trans e5).trans e6, s6.wr (d := .lst (acc ++ [yd])) (u := .lst (xs ++ [yv])) hM ⟨_, rfl, repL_app hf (repL_one r6)⟩, p6⟩
  · have hi' : i = ds.length := by omega
    subst hi'
    exact .inl ⟨y2 _ (Nat.le_refl _), q _ (.adr D) M' H0' H' e' s' (by unfold Rep; rfl) (dn M' ii)⟩
theorem e_lc (wk : Wo vs g) (h : Iv L Γ M wi fun ds M1 => ∀ D, M1 D = none → ∃ I : Nat → Mm → Prop, I 0 (mset M1 D (.lst [])) ∧
      (∀ i d M', ds[i]? = some d → I i M' → Gv L (wipeG Γ vs) M' g d fun Γ2 M2 => EvT L Γ2 M2 t fun b M3 => if b = true then Ev L Γ2 M3 te fun y M4 => ∃ acc, M4 D = some (.lst acc) ∧ acc.length < 100000 ∧ I (i + 1) (mset M4 D (.lst (acc ++ [y]))) else I (i + 1) M3) ∧
      ∀ M', I ds.length M' → P (.adr D) M') : Ev L Γ M (tLc wi g t te vs) P := fun σ H0 H Q s gg q =>
  h σ H0 H _ s gg fun J ds M1 H1 H1' e s1 y p D hD => lc_body wk (gg.up e) s1 y hD (p D (s1.freshM hD)) fun v d M' H0' H' e' => q v d M' H0' H' (e.trans e')
/-- what a comprehension without effects gives -/
def lcD (ds : List Dt) (yes : Dt → Bool) (val : Dt → Dt) : List Dt := (ds.filter yes).map val
theorem lcD_take {ds : List Dt} {yes : Dt → Bool} {val : Dt → Dt} {i : Nat} {d : Dt} (h : ds[i]? = some d) : lcD (ds.take (i + 1)) yes val = if yes d = true then lcD (ds.take i) yes val ++ [val d] else lcD (ds.take i) yes val := by
  unfold lcD
  have hl := (List.getElem?_eq_some_iff.mp h).1
  have hd := (List.getElem?_eq_some_iff.mp h).2
  rw [List.take_succ_eq_append_getElem hl, hd, List.filter_append, List.map_append]
  by_cases y : yes d = true
  · rw [if_pos y, List.filter_cons, if_pos y]
    rfl
  · rw [if_neg y, List.filter_cons, if_neg y]
    exact List.append_nil _
def LcTurn (L : Lk) (Γ : Gm) (M1 : Mm) (vs : List Nat) (g : TG) (t : TT) (te : TE) (yes : Dt → Bool) (val : Dt → Dt) (d : Dt) : Prop :=
  ∀ M', Le M1 M' → Gv L (wipeG Γ vs) M' g d fun Γ2 M2 => M2 = M' ∧ EvT L Γ2 M' t fun b M3 => b = yes d ∧ M3 = M' ∧ (b = true → Ev L Γ2 M' te fun y M4 => y = val d ∧ M4 = M')
theorem gv_mono {PG PG' : Gm → Mm → Prop} (h : Gv L Γ M g d PG) (k : ∀ Γ2 M2, PG Γ2 M2 → PG' Γ2 M2) : Gv L Γ M g d PG' := fun σ H0 H v Q s gg rr q => h σ H0 H v Q s gg rr fun Γ2 M2 σ2 H2 H2' e s' g' p => q Γ2 M2 σ2 H2 H2' e s' g' (k _ _ p)
theorem lc_pure {ds : List Dt} {D : Addr} {yes : Dt → Bool} {val : Dt → Dt} (hD : M D = none) (hz : ds.length ≤ 50000) (h : ∀ (i : Nat) (d : Dt), ds[i]? = some d → LcTurn L Γ M vs g t te yes val d) (k : P (.lst (lcD ds yes val)) M) :
    ∃ I : Nat → Mm → Prop, I 0 (mset M D (.lst [])) ∧
      (∀ i d M', ds[i]? = some d → I i M' → Gv L (wipeG Γ vs) M' g d fun Γ2 M2 => EvT L Γ2 M2 t fun b M3 => if b = true then Ev L Γ2 M3 te fun y M4 => ∃ acc, M4 D = some (.lst acc) ∧ acc.length < 100000 ∧ I (i + 1) (mset M4 D (.lst (acc ++ [y]))) else I (i + 1) M3) ∧
      ∀ M', I ds.length M' → ∃ a d, Dt.adr D = .adr a ∧ M' a = some d ∧ P d (mdel M' a) := by
  refine ⟨fun i M' => M' = mset M D (.lst (lcD (ds.take i) yes val)), rfl, fun i d M' hd e => ?_, fun M' e => ?_⟩
  · subst e
    refine gv_mono (h i d hd _ (Le.new hD)) fun Γ2 M2 ⟨e2, ht⟩ => ?_
    subst e2
    refine ht.mono fun b M3 ⟨eb, e3, he⟩ => ?_
    subst eb e3
    cases y : yes d with
    | false =>
      rw [if_neg (by decide)]
      show mset M D (Dt.lst (lcD (List.take i ds) yes val)) = mset M D (Dt.lst (lcD (List.take (i + 1) ds) yes val))
      rw [lcD_take hd, y, if_neg (by decide)]
    | true =>
      rw [if_pos rfl]
      refine (he y).mono fun yv M4 ⟨ey, e4⟩ => ?_
      subst ey e4
      refine ⟨_, mset_same, ?_, ?_⟩
      · unfold lcD
        rw [List.length_map]
        have h1 := List.length_filter_le yes (ds.take i)
        rw [List.length_take] at h1
        omega
      · rw [mset_mset]
        show mset M D _ = mset M D (Dt.lst (lcD (List.take (i + 1) ds) yes val))
        rw [lcD_take hd, y, if_pos rfl]
  · subst e
    rw [List.take_length]
    exact ⟨D, _, rfl, mset_same, by rw [mdel_mset hD]; exact k⟩
theorem e_lcP (wk : Wo vs g) (h : Iv L Γ M wi fun ds M1 => ds.length ≤ 50000 ∧ ∃ yes val, (∀ (i : Nat) (d : Dt), ds[i]? = some d → LcTurn L Γ M1 vs g t te yes val d) ∧ P (.lst (lcD ds yes val)) M1) : Ev L Γ M (tLc wi g t te vs) P :=
  e_frz (e_lc wk fun σ H0 H R s gg q => h σ H0 H R s gg fun J ds M1 H1 H1' e s1 y ⟨hz, yes, val, ht, k⟩ => q J ds M1 H1 H1' e s1 y fun D hD => lc_pure hD hz ht k)
end
end K85
set_option maxRecDepth 100000
/-! Dicts, subscripts, operators, built-ins on symbolic states. -/
namespace K85
open PySem L2
section
variable {κ : Type} [DecidableEq κ]
def lookA (kvs : List (κ × Dt)) (k : κ) : Option Dt := (kvs.find? fun kv => decide (kv.1 = k)).map (·.2)
def putA (kvs : List (κ × Dt)) (k : κ) (v : Dt) : List (κ × Dt) :=
  if (kvs.any fun kv => decide (kv.1 = k)) = true then kvs.map (fun kv => if kv.1 = k then (kv.1, v) else kv) else kvs ++ [(k, v)]
end
/-- d represents o, both none or both some -/
def RepM (H : Hp) : Option Dt → Option V → Prop
  | some d, some v => Rep H d v
  | none, none => True
  | _, _ => False
theorem RepM.some {H : Hp} {d : Dt} {o : Option V} (h : RepM H (some d) o) : ∃ v, o = .some v ∧ Rep H d v := by
  cases o with
  | none => exact h.elim
  | some v => exact ⟨v, rfl, h⟩
theorem RepM.isSome {H : Hp} {d : Option Dt} {o : Option V} (h : RepM H d o) : o.isSome = d.isSome := by
  cases d <;> cases o <;> first | rfl | exact h.elim
theorem repM_getD {H : Hp} {d : Option Dt} {o : Option V} (h : RepM H d o) : Rep H (d.getD .non) (o.getD .non) := by
  cases d with
  | none =>
    cases o with
    | none =>
      show Rep H .non .non
      unfold Rep
      rfl
    | some _ => exact h.elim
  | some d =>
    cases o with
    | none => exact h.elim
    | some v => exact h
theorem repK_look {H : Hp} {k : Str} : ∀ {kvs : List (Str × Dt)} {ws : List (Key × V)}, RepK H kvs ws → RepM H (lookA kvs k) (valV ws (.inr k))
  | [], ws, h => by
    unfold RepK at h
    subst h
    exact True.intro
  | (k', d) :: kvs, ws, h => by
    unfold RepK at h
    obtain ⟨x, r, rfl, h1, h2⟩ := h
    unfold lookA
    rw [List.find?_cons]
    by_cases e : k' = k
    · subst e
      rw [valV_pos rfl]
      simp only [decide_true]
      exact h1
    · rw [valV_neg (p := (Sum.inr k', x)) (k := (Sum.inr k : Key)) (fun q => e (Sum.inr.inj q))]
      simp only [e, decide_false]
      exact repK_look h2
theorem map_inr_inj {a b : List Str} (h : a.map (Sum.inr : Str → Key) = b.map Sum.inr) : a = b := by
  induction a generalizing b with
  | nil => cases b with
    | nil => rfl
    | cons _ _ => cases h
  | cons x xs ih => cases b with
    | nil => cases h
    | cons y ys =>
      injection h with h1 h2
      injection h1 with h1
      rw [h1, ih h2]
theorem repT_look {H : Hp} {k : List Str} : ∀ {kvs : List (List Str × Dt)} {ws : List (List Key × V)}, RepT H kvs ws → RepM H (lookA kvs k) (valV ws (k.map .inr))
  | [], ws, h => by
    unfold RepT at h
    subst h
    exact True.intro
  | (k', d) :: kvs, ws, h => by
    unfold RepT at h
    obtain ⟨x, r, rfl, h1, h2⟩ := h
    unfold lookA
    rw [List.find?_cons]
    by_cases e : k' = k
    · subst e
      rw [valV_pos rfl]
      simp only [decide_true]
      exact h1
    · rw [valV_neg (p := (k'.map Sum.inr, x)) (k := (k.map Sum.inr : List Key)) (fun q => e (map_inr_inj q))]
      simp only [e, decide_false]
      exact repT_look h2
theorem repK_len {H : Hp} : ∀ {kvs : List (Str × Dt)} {ws : List (Key × V)}, RepK H kvs ws → ws.length = kvs.length
  | [], ws, h => by
    unfold RepK at h
    subst h
    rfl
  | (k', d) :: kvs, ws, h => by
    unfold RepK at h
    obtain ⟨x, r, rfl, h1, h2⟩ := h
    rw [List.length_cons, List.length_cons, repK_len h2]
theorem repT_len {H : Hp} : ∀ {kvs : List (List Str × Dt)} {ws : List (List Key × V)}, RepT H kvs ws → ws.length = kvs.length
  | [], ws, h => by
    unfold RepT at h
    subst h
    rfl
  | (k', d) :: kvs, ws, h => by
    unfold RepT at h
    obtain ⟨x, r, rfl, h1, h2⟩ := h
    rw [List.length_cons, List.length_cons, repT_len h2]
theorem repK_any {H : Hp} {k : Str} : ∀ {kvs : List (Str × Dt)} {ws : List (Key × V)}, RepK H kvs ws → (ws.any fun kv => decide (kv.1 = .inr k)) = kvs.any fun kv => decide (kv.1 = k)
  | [], ws, h => by
    unfold RepK at h
    subst h
    rfl
  | (k', d) :: kvs, ws, h => by
    unfold RepK at h
    obtain ⟨x, r, rfl, h1, h2⟩ := h
    rw [List.any_cons, List.any_cons, repK_any h2]
    by_cases e : k' = k
    · subst e
      simp
    · have e' : ¬ (Sum.inr k' : Key) = Sum.inr k := fun q => e (Sum.inr.inj q)
      simp [e, e']
theorem repT_any {H : Hp} {k : List Str} : ∀ {kvs : List (List Str × Dt)} {ws : List (List Key × V)}, RepT H kvs ws → (ws.any fun kv => decide (kv.1 = k.map .inr)) = kvs.any fun kv => decide (kv.1 = k)
  | [], ws, h => by
    unfold RepT at h
    subst h
    rfl
  | (k', d) :: kvs, ws, h => by
    unfold RepT at h
    obtain ⟨x, r, rfl, h1, h2⟩ := h
    rw [List.any_cons, List.any_cons, repT_any h2]
    by_cases e : k' = k
    · subst e
      simp
    · have e' : ¬ (k'.map Sum.inr : List Key) = k.map Sum.inr := fun q => e (map_inr_inj q)
      simp [e, e']
theorem repK_map {H : Hp} {k : Str} {d : Dt} {v : V} (hr : Rep H d v) : ∀ {kvs : List (Str × Dt)} {ws : List (Key × V)}, RepK H kvs ws → RepK H (kvs.map fun kv => if kv.1 = k then (kv.1, d) else kv) (ws.map fun kv => if kv.1 = .inr k then (kv.1, v) else kv)
  | [], ws, h => by
    unfold RepK at h
    subst h
    unfold RepK
    rfl
  | (k', d') :: kvs, ws, h => by
    unfold RepK at h
    obtain ⟨x, r, rfl, h1, h2⟩ := h
    rw [List.map_cons, List.map_cons]
    by_cases e : k' = k
    · subst e
      rw [if_pos rfl, if_pos rfl]
      unfold RepK
      exact ⟨v, _, rfl, hr, repK_map hr h2⟩
    · rw [if_neg e, if_neg (fun q => e (Sum.inr.inj q))]
      unfold RepK
      exact ⟨x, _, rfl, h1, repK_map hr h2⟩
theorem repT_map {H : Hp} {k : List Str} {d : Dt} {v : V} (hr : Rep H d v) : ∀ {kvs : List (List Str × Dt)} {ws : List (List Key × V)}, RepT H kvs ws → RepT H (kvs.map fun kv => if kv.1 = k then (kv.1, d) else kv) (ws.map fun kv => if kv.1 = k.map .inr then (kv.1, v) else kv)
  | [], ws, h => by
    unfold RepT at h
    subst h
    unfold RepT
    rfl
  | (k', d') :: kvs, ws, h => by
    unfold RepT at h
    obtain ⟨x, r, rfl, h1, h2⟩ := h
    rw [List.map_cons, List.map_cons]
    by_cases e : k' = k
    · subst e
      rw [if_pos rfl, if_pos rfl]
      unfold RepT
      exact ⟨v, _, rfl, hr, repT_map hr h2⟩
    · rw [if_neg e, if_neg (fun q => e (map_inr_inj q))]
      unfold RepT
      exact ⟨x, _, rfl, h1, repT_map hr h2⟩
theorem repK_app {H : Hp} {k : Str} {d : Dt} {v : V} (hr : Rep H d v) : ∀ {kvs : List (Str × Dt)} {ws : List (Key × V)}, RepK H kvs ws → RepK H (kvs ++ [(k, d)]) (ws ++ [(.inr k, v)])
  | [], ws, h => by
    unfold RepK at h
    subst h
    show RepK H [(k, d)] [(.inr k, v)]
    unfold RepK
    refine ⟨v, [], rfl, hr, ?_⟩
    unfold RepK
    rfl
  | (k', d') :: kvs, ws, h => by
    unfold RepK at h
    obtain ⟨x, r, rfl, h1, h2⟩ := h
    rw [List.cons_append]
    unfold RepK
    exact ⟨x, _, rfl, h1, repK_app hr h2⟩
theorem repT_app {H : Hp} {k : List Str} {d : Dt} {v : V} (hr : Rep H d v) : ∀ {kvs : List (List Str × Dt)} {ws : List (List Key × V)}, RepT H kvs ws → RepT H (kvs ++ [(k, d)]) (ws ++ [(k.map .inr, v)])
  | [], ws, h => by
    unfold RepT at h
    subst h
    show RepT H [(k, d)] [(k.map .inr, v)]
    unfold RepT
    refine ⟨v, [], rfl, hr, ?_⟩
    unfold RepT
    rfl
  | (k', d') :: kvs, ws, h => by
    unfold RepT at h
    obtain ⟨x, r, rfl, h1, h2⟩ := h
    rw [List.cons_append]
    unfold RepT
    exact ⟨x, _, rfl, h1, repT_app hr h2⟩
theorem repK_put {H : Hp} {k : Str} {d : Dt} {v : V} {kvs : List (Str × Dt)} {ws : List (Key × V)} (hr : Rep H d v) (h : RepK H kvs ws) : RepK H (putA kvs k d) (putK ws (.inr k) v) := by
  unfold putA putK
  rw [repK_any h]
  split
  · exact repK_map hr h
  · exact repK_app hr h
theorem repT_put {H : Hp} {k : List Str} {d : Dt} {v : V} {kvs : List (List Str × Dt)} {ws : List (List Key × V)} (hr : Rep H d v) (h : RepT H kvs ws) : RepT H (putA kvs k d) (putK ws (k.map .inr) v) := by
  unfold putA putK
  rw [repT_any h]
  split
  · exact repT_map hr h
  · exact repT_app hr h
theorem kV_map (ks : List Str) : (ks.map (Sum.inr : Str → Key)).map kV = ks.map V.str := by
  rw [List.map_map]
  rfl

section
variable {L : Lk} {Γ Γ' : Gm} {M M' : Mm} {ta tb tc te tv td ty tx : TE} {t u : TT} {P : Dt → Mm → Prop} {r : R2} {K : PySem.W.Frag} {d : Dt} {tr : TA} {g : TG} {vs : List Nat} {wi : TI} {Es' : Es}
/-- a dict's view with a key's: what stands there -/
def DgD (M : Mm) (x y : Dt) (R : Option Dt → Prop) : Prop := (∃ kvs k, vw M x = .dK kvs ∧ y = .s k ∧ R (lookA kvs k)) ∨ ∃ kvs ks, vw M x = .dT kvs ∧ y = .tup (dStrs ks) ∧ R (lookA kvs ks)
theorem dg_of {H0 H : Hp} {x y : Dt} {v w : V} {R : Option Dt → Prop} (s : SV L M H0 H) (rx : Rep H0 x v) (ry : Rep H0 y w) (h : DgD M x y R) : ∃ a od o, v = .ref a ∧ DGet H a w o ∧ RepM H0 od o ∧ R od := by
  rcases h with ⟨kvs, k, h1, rfl, h2⟩ | ⟨kvs, ks, h1, rfl, h2⟩
  · obtain ⟨a, ws, rfl, hr, hk, _⟩ := s.dK rx h1
    unfold Rep at ry
    subst ry
    exact ⟨a, _, _, rfl, .inl ⟨ws, .inr k, hr, rfl, rfl⟩, repK_look hk, h2⟩
  · obtain ⟨a, ws, rfl, hr, hk, _⟩ := s.dT rx h1
    obtain ⟨b, xs, rfl, _, hb, hx⟩ := s.tup ry rfl
    exact ⟨a, _, _, rfl, .inr ⟨ws, ks.map .inr, b, hr, rfl, by rw [hb, repL_strs hx, kV_map], rfl⟩, repT_look hk, h2⟩
theorem e_dget (h : Ev L Γ M td fun x M1 => Ev L Γ M1 ty fun y M2 => DgD M2 x y fun o => ∃ d, o = some d ∧ P d M2) : Ev L Γ M (tDGet td ty) P := fun σ H0 H Q s g q =>
  h σ H0 H _ s g fun v x M1 H1 H1' e1 s1 r1 p => p σ H1 H1' _ s1 (g.up e1) fun w y M2 H2 H2' e2 s2 r2 p => by
    obtain ⟨a, od, o, rfl, hd, hm, d, rfl, p⟩ := dg_of s2 (r1.up e2) r2 p
    obtain ⟨z, rfl, rz⟩ := hm.some
    exact ⟨a, z, rfl, hd, q z d M2 H2 H2' (e1.trans e2) s2 rz p⟩
theorem e_dget1 (h : Ev L Γ M td fun x M1 => ((∃ kvs, vw M1 x = .dK kvs) ∨ ∃ kvs, vw M1 x = .dT kvs) ∧ Ev L Γ M1 ty fun y M2 => DgD M2 x y fun o => P (o.getD .non) M2) : Ev L Γ M (tDGet1 td ty) P := fun σ H0 H Q s g q =>
  h σ H0 H _ s g fun v x M1 H1 H1' e1 s1 r1 p => by
    obtain ⟨hx, p⟩ := p
    have hi : ∃ a, v = .ref a ∧ IsD H1' a := by
      rcases hx with ⟨kvs, hx⟩ | ⟨kvs, hx⟩
      · obtain ⟨a, ws, rfl, hr, _⟩ := s1.dK r1 hx
        exact ⟨a, rfl, .inl ⟨ws, hr⟩⟩
      · obtain ⟨a, ws, rfl, hr, _⟩ := s1.dT r1 hx
        exact ⟨a, rfl, .inr ⟨ws, hr⟩⟩
    obtain ⟨a, rfl, hi⟩ := hi
    refine ⟨a, rfl, hi, p σ H1 H1' _ s1 (g.up e1) fun w y M2 H2 H2' e2 s2 r2 p => ?_⟩
    obtain ⟨a', od, o, e, hd, hm, p⟩ := dg_of s2 (r1.up e2) r2 p
    cases e
    exact ⟨o, hd, q _ _ M2 H2 H2' (e1.trans e2) s2 (repM_getD hm) p⟩
theorem e_din (h : Ev L Γ M ty fun y M1 => Ev L Γ M1 td fun x M2 => DgD M2 x y fun o => P (.b o.isSome) M2) : Ev L Γ M (tDIn ty td) P := fun σ H0 H Q s g q =>
  h σ H0 H _ s g fun v x M1 H1 H1' e1 s1 r1 p => p σ H1 H1' _ s1 (g.up e1) fun w y M2 H2 H2' e2 s2 r2 p => by
    obtain ⟨a, od, o, rfl, hd, hm, p⟩ := dg_of s2 r2 (r1.up e2) p
    refine ⟨a, o, rfl, hd, q _ (.b od.isSome) M2 H2 H2' (e1.trans e2) s2 ?_ p⟩
    unfold Rep
    rw [hm.isSome]
theorem e_dnotin (h : Ev L Γ M ty fun y M1 => Ev L Γ M1 td fun x M2 => DgD M2 x y fun o => P (.b (!o.isSome)) M2) : Ev L Γ M (tDNotIn ty td) P := fun σ H0 H Q s g q =>
  h σ H0 H _ s g fun v x M1 H1 H1' e1 s1 r1 p => p σ H1 H1' _ s1 (g.up e1) fun w y M2 H2 H2' e2 s2 r2 p => by
    obtain ⟨a, od, o, rfl, hd, hm, p⟩ := dg_of s2 r2 (r1.up e2) p
    refine ⟨a, o, rfl, hd, q _ (.b (!od.isSome)) M2 H2 H2' (e1.trans e2) s2 ?_ p⟩
    unfold Rep
    rw [hm.isSome]
/-- d[k] = v, d an own dict -/
theorem r_dput (h : Ev L Γ M tv fun z M1 => Ev L Γ M1 td fun x M2 => Ev L Γ M2 ty fun y M3 => ∃ a, x = .adr a ∧
    ((∃ kvs k, M3 a = some (.dK kvs) ∧ y = .s k ∧ kvs.length ≤ 100000 ∧ Es'.nx Γ (mset M3 a (.dK (putA kvs k z)))) ∨ ∃ kvs ks, M3 a = some (.dT kvs) ∧ y = .tup (dStrs ks) ∧ kvs.length ≤ 100000 ∧ Es'.nx Γ (mset M3 a (.dT (putA kvs ks z))))) :
    Run L Γ M (sDPut td ty tv) Es' := fun σ H0 H D s g o =>
  h σ H0 H _ s g fun v z M1 H1 H1' e1 s1 r1 p => p σ H1 H1' _ s1 (g.up e1) fun w x M2 H2 H2' e2 s2 r2 p => p σ H2 H2' _ s2 (g.up (e1.trans e2)) fun w' y M3 H3 H3' e3 s3 r3 p => by
    obtain ⟨a, rfl, p4⟩ := p
    have hw : w = .ref a := by
      unfold Rep at r2
      exact r2
    subst hw
    have big : (100000 : Nat) < sizeLine := by decide
    rcases p4 with ⟨kvs, k, hM, rfl, hl, p⟩ | ⟨kvs, ks, hM, rfl, hl, p⟩
    · obtain ⟨_, uu, hu, ws, rfl, hk⟩ := s3.own a _ hM
      unfold Rep at r3
      subst r3
      refine ⟨a, _, rfl, DPut.k (k := .inr k) hu (by rw [repK_len hk]; omega), ?_⟩
      exact o.nx Γ _ σ H3 _ ((e1.trans e2).trans e3) (s3.wr (d := .dK (putA kvs k z)) (u := .dK (putK ws (.inr k) v)) hM ⟨_, rfl, repK_put (r1.up (e2.trans e3)) hk⟩) (g.up ((e1.trans e2).trans e3)) p
    · obtain ⟨_, uu, hu, ws, rfl, hk⟩ := s3.own a _ hM
      obtain ⟨b, xs, rfl, _, hb, hx⟩ := s3.tup r3 rfl
      refine ⟨a, _, rfl, DPut.t (k := ks.map .inr) hu (by rw [hb, repL_strs hx, kV_map]) (by rw [repT_len hk]; omega), ?_⟩
      exact o.nx Γ _ σ H3 _ ((e1.trans e2).trans e3) (s3.wr (d := .dT (putA kvs ks z)) (u := .dT (putK ws (ks.map .inr) v)) hM ⟨_, rfl, repT_put (r1.up (e2.trans e3)) hk⟩) (g.up ((e1.trans e2).trans e3)) p

/-! ### subscripts, slices -/
theorem o_ixL {x : Dt} {n : Nat} {ds : List Dt} (hx : vw M x = .lst ds) (hd : ds[n]? = some d) (k : P d M) : Op L M (rIxL K) x (.i (n : Int)) P := fun H0 H v w Q s rx ry q => by
  obtain ⟨a, xs, rfl, ha, hr⟩ := s.lst rx hx
  unfold Rep at ry
  subst ry
  obtain ⟨z, h1, h2⟩ := repL_get hr hd
  exact ⟨a, xs, _, z, rfl, rfl, SqL.of ha, atI_nat h1, q z d M H0 H (Same.refl _) s h2 k⟩
theorem o_ixT {n : Nat} {ds : List Dt} (hd : ds[n]? = some d) (k : P d M) : Op L M (rIxT K) (.tup ds) (.i (n : Int)) P := fun H0 H v w Q s rx ry q => by
  obtain ⟨a, xs, rfl, _, ha, hr⟩ := s.tup rx rfl
  unfold Rep at ry
  subst ry
  obtain ⟨z, h1, h2⟩ := repL_get hr hd
  exact ⟨a, xs, _, z, rfl, rfl, SqT.of ha, atI_nat h1, q z d M H0 H (Same.refl _) s h2 k⟩
theorem o_ixEnd {x : Dt} {ds : List Dt} (hx : vw M x = .lst (ds ++ [d])) (k : P d M) : Op L M (rIxL K) x (.i (-1)) P := fun H0 H v w Q s rx ry q => by
  obtain ⟨a, xs, rfl, ha, hr⟩ := s.lst rx hx
  unfold Rep at ry
  subst ry
  have hl := repL_len hr
  rw [List.length_append, List.length_singleton] at hl
  obtain ⟨z, h1, h2⟩ := repL_get hr (i := ds.length) (d := d) (by simp)
  refine ⟨a, xs, _, z, rfl, rfl, SqL.of ha, ?_, q z d M H0 H (Same.refl _) s h2 k⟩
  unfold atI ixN
  rw [if_neg (by decide), hl, if_pos (by omega)]
  show xs[(-1 + ((ds.length + 1 : Nat) : Int)).toNat]? = some z
  rw [show (-1 + ((ds.length + 1 : Nat) : Int)).toNat = ds.length by omega]
  exact h1
theorem o_neg {n : Int} (k : P (.i (-n)) M) : Mt L M (fun v _ H Q => rU (fun i => .int (-i)) v H Q) (.i n) [] P := fun H0 H v vs Q s rx rs q => by
  unfold Rep at rx
  subst rx
  exact ⟨n, rfl, q _ (.i (-n)) M H0 H (Same.refl _) s (by unfold Rep; rfl) k⟩
theorem s_none {PO' : Option Int → Mm → Prop} (k : PO' none M) : EvO L Γ M tNoPart PO' := fun σ H0 H Q s g q => q none M H0 H (Same.refl _) s k
theorem s_some {PO' : Option Int → Mm → Prop} (h : Ev L Γ M te fun d M1 => ∃ i, d = .i i ∧ PO' (some i) M1) : EvO L Γ M (tPart te) PO' := fun σ H0 H Q s g q =>
  h σ H0 H _ s g fun v d M1 H1 H1' e s1 r p => by
    obtain ⟨i, rfl, p⟩ := p
    unfold Rep at r
    exact ⟨i, r, q (some i) M1 H1 H1' e s1 p⟩
def cutD (xs : List Dt) (lo hi : Option Int) : List Dt := (xs.drop (HT.sIx xs.length 0 lo)).take (HT.sIx xs.length xs.length hi - HT.sIx xs.length 0 lo)
theorem repL_take {H : Hp} : ∀ {ds : List Dt} {vs : List V} (n : Nat), RepL H ds vs → RepL H (ds.take n) (vs.take n)
  | [], vs, n, h => by
    unfold RepL at h
    subst h
    simp only [List.take_nil]
    exact repL_nil
  | d :: ds, vs, 0, h => repL_nil
  | d :: ds, vs, n + 1, h => by
    unfold RepL at h
    obtain ⟨x, r, rfl, h1, h2⟩ := h
    exact repL_cons h1 (repL_take n h2)
theorem repL_drop {H : Hp} : ∀ {ds : List Dt} {vs : List V} (n : Nat), RepL H ds vs → RepL H (ds.drop n) (vs.drop n)
  | [], vs, n, h => by
    unfold RepL at h
    subst h
    simp only [List.drop_nil]
    exact repL_nil
  | d :: ds, vs, 0, h => h
  | d :: ds, vs, n + 1, h => by
    unfold RepL at h
    obtain ⟨x, r, rfl, h1, h2⟩ := h
    exact repL_drop n h2
theorem repL_cut {H : Hp} {ds : List Dt} {vs : List V} {lo hi : Option Int} (h : RepL H ds vs) : RepL H (cutD ds lo hi) (cutV vs lo hi) := by
  unfold cutD cutV
  rw [repL_len h]
  exact repL_take _ (repL_drop _ h)
theorem e_slL {tl th : TO} (h : Ev L Γ M te fun x M1 => EvO L Γ M1 tl fun lo M2 => EvO L Γ M2 th fun hi M3 => ∃ ds, vw M3 x = .lst ds ∧ P (.lst (cutD ds lo hi)) M3) : Ev L Γ M (L2.tSl (rSlL K) te tl th) P := fun σ H0 H Q s g q =>
  h σ H0 H _ s g fun v x M1 H1 H1' e1 s1 r1 p => p σ H1 H1' _ s1 (g.up e1) fun lo M2 H2 H2' e2 s2 p => p σ H2 H2' _ s2 (g.up (e1.trans e2)) fun hi M3 H3 H3' e3 s3 p => by
    obtain ⟨ds, hx, p⟩ := p
    obtain ⟨a, xs, rfl, ha, hr⟩ := s3.lst (r1.up (e2.trans e3)) hx
    refine ⟨a, xs, rfl, SqL.of ha, fun b hb => ?_⟩
    have h0 := s3.fresh0 hb
    refine q _ (.lst (cutD ds lo hi)) M3 _ _ (((e1.trans e2).trans e3).trans (same_new h0)) (s3.newP hb) ?_ p
    unfold Rep
    exact ⟨b, _, rfl, upd_same, (repL_cut hr).up (same_new h0)⟩
theorem e_slT {tl th : TO} (h : Ev L Γ M te fun x M1 => EvO L Γ M1 tl fun lo M2 => EvO L Γ M2 th fun hi M3 => ∃ ds, x = .tup ds ∧ P (.tup (cutD ds lo hi)) M3) : Ev L Γ M (L2.tSl (rSlA K) te tl th) P := fun σ H0 H Q s g q =>
  h σ H0 H _ s g fun v x M1 H1 H1' e1 s1 r1 p => p σ H1 H1' _ s1 (g.up e1) fun lo M2 H2 H2' e2 s2 p => p σ H2 H2' _ s2 (g.up (e1.trans e2)) fun hi M3 H3 H3' e3 s3 p => by
    obtain ⟨ds, rfl, p5⟩ := p
    obtain ⟨a, xs, rfl, ha0, ha, hr⟩ := s3.tup (r1.up (e2.trans e3)) rfl
    refine ⟨a, xs, rfl, SqT.of ha, fun hw => ?_, fun hw b hb => ?_⟩
    · have hc : cutV xs lo hi = xs := by
        unfold cutV
        rw [hw.1, hw.2]
        simp
      have hr2 := repL_cut (lo := lo) (hi := hi) hr
      rw [hc] at hr2
      refine q _ (.tup (cutD ds lo hi)) M3 H3 H3' ((e1.trans e2).trans e3) s3 ?_ p5
      unfold Rep
      exact ⟨a, xs, rfl, ha0, hr2⟩
    · have h0 := s3.fresh0 hb
      refine q _ (.tup (cutD ds lo hi)) M3 _ _ (((e1.trans e2).trans e3).trans (same_new h0)) (s3.newP hb) ?_ p5
      unfold Rep
      exact ⟨b, _, rfl, upd_same, (repL_cut hr).up (same_new h0)⟩

/-! ### operators -/
theorem o_II {f : Int → Int → Int} {m n : Int} (k : P (.i (f m n)) M) : Op L M (rI0 fun i j => .int (f i j)) (.i m) (.i n) P := fun H0 H v w Q s rx ry q => by
  unfold Rep at rx ry
  subst rx ry
  exact ⟨m, n, rfl, rfl, q _ (.i (f m n)) M H0 H (Same.refl _) s (by unfold Rep; rfl) k⟩
theorem o_IB {f : Int → Int → Bool} {m n : Int} (k : P (.b (f m n)) M) : Op L M (rI0 fun i j => .bl (f i j)) (.i m) (.i n) P := fun H0 H v w Q s rx ry q => by
  unfold Rep at rx ry
  subst rx ry
  exact ⟨m, n, rfl, rfl, q _ (.b (f m n)) M H0 H (Same.refl _) s (by unfold Rep; rfl) k⟩
theorem o_IC {C : Int → Int → Prop} {f : Int → Int → Int} {m n : Int} (hc : C m n) (k : P (.i (f m n)) M) : Op L M (rI C fun i j => .int (f i j)) (.i m) (.i n) P := fun H0 H v w Q s rx ry q => by
  unfold Rep at rx ry
  subst rx ry
  exact ⟨m, n, rfl, rfl, hc, q _ (.i (f m n)) M H0 H (Same.refl _) s (by unfold Rep; rfl) k⟩
/-- what is carried by value -/
def fV : Dt → Option V
  | .non => some .non
  | .b c => some (.bl c)
  | .i n => some (.int n)
  | .s x => some (.str x)
  | _ => none
theorem fV_rep {H : Hp} {x : Dt} {v w : V} (h : fV x = some w) (r : Rep H x v) : v = w := by
  cases x <;> first | (cases h; unfold Rep at r; exact r) | cases h
theorem o_eq {x y : Dt} {v w : V} (hx : fV x = some v) (hy : fV y = some w) (hs : scal v w = true) (k : P (.b (decide (v = w))) M) : Op L M rEq x y P := fun H0 H v' w' Q s rx ry q => by
  cases fV_rep hx rx
  cases fV_rep hy ry
  exact ⟨hs, q _ (.b (decide (v = w))) M H0 H (Same.refl _) s (by unfold Rep; rfl) k⟩
theorem o_ne {x y : Dt} {v w : V} (hx : fV x = some v) (hy : fV y = some w) (hs : scal v w = true) (k : P (.b (!decide (v = w))) M) : Op L M rNe x y P := fun H0 H v' w' Q s rx ry q => by
  cases fV_rep hx rx
  cases fV_rep hy ry
  exact ⟨hs, q _ (.b (!decide (v = w))) M H0 H (Same.refl _) s (by unfold Rep; rfl) k⟩
theorem eqV_str (a b : Str) : eqV (.str a) (.str b) = decide (a = b) := rfl
theorem inV_strs {x : Str} : ∀ xs : List Str, inV (.str x) (xs.map V.str) = decide (x ∈ xs)
  | [] => rfl
  | y :: ys => by
    have ih := inV_strs (x := x) ys
    unfold inV at ih ⊢
    rw [List.map_cons, List.any_cons, ih, eqV_str]
    by_cases e : y = x
    · subst e
      simp
    · have e' : ¬ x = y := fun q => e q.symm
      simp [e, e']
theorem flat_strs (xs : List Str) : (xs.map V.str).all flatV = true := by
  rw [List.all_eq_true]
  intro v hv
  obtain ⟨x, _, rfl⟩ := List.mem_map.mp hv
  rfl
theorem o_inS {neg : Bool} {x : Str} {y : Dt} {xs : List Str} (hy : vw M y = .lst (dStrs xs) ∨ y = .tup (dStrs xs)) (k : P (.b (if neg then !decide (x ∈ xs) else decide (x ∈ xs))) M) : Op L M (rIn K neg) (.s x) y P := fun H0 H v w Q s rx ry q => by
  unfold Rep at rx
  subst rx
  have : ∃ a, w = .ref a ∧ (SqL K H a (xs.map V.str) ∨ SqT K H a (xs.map V.str)) := by
    rcases hy with hy | rfl
    · obtain ⟨a, vs, rfl, ha, hr⟩ := s.lst ry hy
      rw [repL_strs hr] at ha
      exact ⟨a, rfl, .inl (SqL.of ha)⟩
    · obtain ⟨a, vs, rfl, _, ha, hr⟩ := s.tup ry rfl
      rw [repL_strs hr] at ha
      exact ⟨a, rfl, .inr (SqT.of ha)⟩
  obtain ⟨a, rfl, ha⟩ := this
  refine ⟨a, _, rfl, ha, rfl, flat_strs xs, q _ (.b (if neg then !decide (x ∈ xs) else decide (x ∈ xs))) M H0 H (Same.refl _) s ?_ k⟩
  unfold Rep
  rw [inV_strs]
theorem o_cat {x y : Dt} {as bs : List Dt} (hx : vw M x = .lst as) (hy : vw M y = .lst bs) (hl : as.length + bs.length ≤ 100000) (k : P (.lst (as ++ bs)) M) : Op L M rCat x y P := fun H0 H v w Q s rx ry q => by
  obtain ⟨a, xs, rfl, ha, hr⟩ := s.lst rx hx
  obtain ⟨b, ys, rfl, hb, hr'⟩ := s.lst ry hy
  refine ⟨a, b, xs, ys, rfl, rfl, ha, hb, Nat.le_trans (by rw [repL_len hr, repL_len hr']; exact hl) (by decide), fun p hp => ?_⟩
  have h0 := s.fresh0 hp
  refine q _ (.lst (as ++ bs)) M _ _ (same_new h0) (s.newP hp) ?_ k
  unfold Rep
  exact ⟨p, _, rfl, upd_same, (repL_app hr hr').up (same_new h0)⟩
theorem o_catT {as bs : List Dt} (hl : as.length + bs.length ≤ 100000) (k : P (.tup (as ++ bs)) M) : Op L M (rCatA K) (.tup as) (.tup bs) P := fun H0 H v w Q s rx ry q => by
  obtain ⟨a, xs, rfl, ha0, ha, hr⟩ := s.tup rx rfl
  obtain ⟨b, ys, rfl, hb0, hb, hr'⟩ := s.tup ry rfl
  have app := repL_app hr hr'
  refine ⟨a, b, xs, ys, rfl, rfl, SqT.of ha, SqT.of hb, Nat.le_trans (by rw [repL_len hr, repL_len hr']; exact hl) (by decide), fun e => ?_, fun _ e => ?_, fun _ _ p hp => ?_⟩
  · rw [e, List.nil_append] at app
    refine q _ (.tup (as ++ bs)) M H0 H (Same.refl _) s ?_ k
    unfold Rep
    exact ⟨b, ys, rfl, hb0, app⟩
  · rw [e, List.append_nil] at app
    refine q _ (.tup (as ++ bs)) M H0 H (Same.refl _) s ?_ k
    unfold Rep
    exact ⟨a, xs, rfl, ha0, app⟩
  · have h0 := s.fresh0 hp
    refine q _ (.tup (as ++ bs)) M _ _ (same_new h0) (s.newP hp) ?_ k
    unfold Rep
    exact ⟨p, _, rfl, upd_same, app.up (same_new h0)⟩
theorem m_app {a : Addr} {ds : List Dt} (hM : M a = some (.lst ds)) (hl : ds.length ≤ 100000) (k : P .non (mset M a (.lst (ds ++ [d])))) : Mt L M rAppend (.adr a) [d] P := fun H0 H v vs Q s rx rs q => by
  unfold Rep at rx
  subst rx
  obtain ⟨h0, uu, hu, xs, rfl, hf⟩ := s.own a _ hM
  unfold RepL at rs
  obtain ⟨y, r, rfl, r1, r2⟩ := rs
  unfold RepL at r2
  subst r2
  refine ⟨a, xs, y, rfl, rfl, hu, Nat.lt_of_le_of_lt (by rw [repL_len hf]; exact hl) (by decide), ?_⟩
  exact q _ .non _ H0 _ (Same.refl _) (s.wr (d := .lst (ds ++ [d])) (u := .lst (xs ++ [y])) hM ⟨_, rfl, repL_app hf (repL_one r1)⟩) (by unfold Rep; rfl) k
theorem m_ext {a : Addr} {ds es : List Dt} {y : Dt} (hM : M a = some (.lst ds)) (hy : vw M y = .lst es) (hl : ds.length + es.length ≤ 100000) (k : P .non (mset M a (.lst (ds ++ es)))) : Mt L M rExtend (.adr a) [y] P := fun H0 H v vs Q s rx rs q => by
  unfold Rep at rx
  subst rx
  obtain ⟨h0, uu, hu, xs, rfl, hf⟩ := s.own a _ hM
  unfold RepL at rs
  obtain ⟨z, r, rfl, r1, r2⟩ := rs
  unfold RepL at r2
  subst r2
  obtain ⟨b, zs, rfl, hb, hr⟩ := s.lst r1 hy
  refine ⟨a, b, xs, zs, rfl, rfl, hu, hb, Nat.le_trans (by rw [repL_len hf, repL_len hr]; exact hl) (by decide), ?_⟩
  exact q _ .non _ H0 _ (Same.refl _) (s.wr (d := .lst (ds ++ es)) (u := .lst (xs ++ zs)) hM ⟨_, rfl, repL_app hf hr⟩) (by unfold Rep; rfl) k
/-! ### built-ins -/
theorem c_len {x : Dt} {ds : List Dt} (hx : vw M x = .lst ds ∨ x = .tup ds) (k : P (.i (ds.length : Int)) M) : Cb L M (fun xs H Q => ∃ p ys, xs = [V.ref p] ∧ (SqL K H p ys ∨ SqT K H p ys) ∧ Q (.int ys.length) H) [x] P := fun H0 H vs Q s rs q => by
  unfold RepL at rs
  obtain ⟨z, r, rfl, r1, r2⟩ := rs
  unfold RepL at r2
  subst r2
  have : ∃ a xs, z = .ref a ∧ (SqL K H a xs ∨ SqT K H a xs) ∧ xs.length = ds.length := by
    rcases hx with hx | rfl
    · obtain ⟨a, xs, rfl, ha, hr⟩ := s.lst r1 hx
      exact ⟨a, xs, rfl, .inl (SqL.of ha), repL_len hr⟩
    · obtain ⟨a, xs, rfl, _, ha, hr⟩ := s.tup r1 rfl
      exact ⟨a, xs, rfl, .inr (SqT.of ha), repL_len hr⟩
  obtain ⟨a, xs, rfl, ha, hl⟩ := this
  refine ⟨a, xs, rfl, ha, q _ (.i (ds.length : Int)) M H0 H (Same.refl _) s ?_ k⟩
  unfold Rep
  rw [hl]
theorem one_rep {H0 : Hp} {x : Dt} {vs : List V} (rs : RepL H0 [x] vs) : ∃ v, vs = [v] ∧ Rep H0 x v := by
  unfold RepL at rs
  obtain ⟨z, r, rfl, r1, r2⟩ := rs
  unfold RepL at r2
  subst r2
  exact ⟨z, rfl, r1⟩
theorem c_lenT {x : Dt} {kvs : List (List Str × Dt)} (hx : vw M x = .dT kvs) (hL : ∀ a, L a = none) (k : P (.i (kvs.length : Int)) M) : Cb L M rLenT [x] P := fun H0 H vs Q s rs q => by
  obtain ⟨v, rfl, r1⟩ := one_rep rs
  obtain ⟨a, ws, rfl, _, hr, hh⟩ := s.dT r1 hx
  refine ⟨a, ws, rfl, hh (hL a), q _ (.i (kvs.length : Int)) M H0 H (Same.refl _) s ?_ k⟩
  unfold Rep
  rw [repT_len hr]
/-- list(xs): a new list, data or own -/
theorem c_list {x : Dt} {ds : List Dt} (hx : vw M x = .lst ds ∨ x = .tup ds) (k : P (.lst ds) M) : Cb L M (fun xs H Q => ∃ p ys, xs = [V.ref p] ∧ (SqL K H p ys ∨ SqT K H p ys) ∧ ∀ l, H l = none → Q (.ref l) (upd H l (.lst ys))) [x] P := fun H0 H vs Q s rs q => by
  obtain ⟨v, rfl, r1⟩ := one_rep rs
  have : ∃ a xs, v = .ref a ∧ (SqL K H a xs ∨ SqT K H a xs) ∧ RepL H0 ds xs := by
    rcases hx with hx | rfl
    · obtain ⟨a, xs, rfl, ha, hr⟩ := s.lst r1 hx
      exact ⟨a, xs, rfl, .inl (SqL.of ha), hr⟩
    · obtain ⟨a, xs, rfl, _, ha, hr⟩ := s.tup r1 rfl
      exact ⟨a, xs, rfl, .inr (SqT.of ha), hr⟩
  obtain ⟨a, xs, rfl, ha, hr⟩ := this
  refine ⟨a, xs, rfl, ha, fun p hp => ?_⟩
  have h0 := s.fresh0 hp
  refine q _ (.lst ds) M _ _ (same_new h0) (s.newP hp) ?_ k
  unfold Rep
  exact ⟨p, _, rfl, upd_same, hr.up (same_new h0)⟩
theorem c_listO {x : Dt} {ds : List Dt} (hx : vw M x = .lst ds ∨ x = .tup ds) (k : ∀ a, M a = none → P (.adr a) (mset M a (.lst ds))) : Cb L M (fun xs H Q => ∃ p ys, xs = [V.ref p] ∧ (SqL K H p ys ∨ SqT K H p ys) ∧ ∀ l, H l = none → Q (.ref l) (upd H l (.lst ys))) [x] P := fun H0 H vs Q s rs q => by
  obtain ⟨v, rfl, r1⟩ := one_rep rs
  have : ∃ a xs, v = .ref a ∧ (SqL K H a xs ∨ SqT K H a xs) ∧ RepL H0 ds xs := by
    rcases hx with hx | rfl
    · obtain ⟨a, xs, rfl, ha, hr⟩ := s.lst r1 hx
      exact ⟨a, xs, rfl, .inl (SqL.of ha), hr⟩
    · obtain ⟨a, xs, rfl, _, ha, hr⟩ := s.tup r1 rfl
      exact ⟨a, xs, rfl, .inr (SqT.of ha), hr⟩
  obtain ⟨a, xs, rfl, ha, hr⟩ := this
  refine ⟨a, xs, rfl, ha, fun p hp => ?_⟩
  exact q _ (.adr p) _ H0 _ (Same.refl _) (s.newM (d := .lst ds) (u := .lst xs) hp ⟨_, rfl, hr⟩) (by unfold Rep; rfl) (k p (s.freshM hp))
theorem c_tuple {x : Dt} {ds : List Dt} (hx : vw M x = .lst ds ∨ x = .tup ds) (k : P (.tup ds) M) : Cb L M (fun xs H Q => ∃ p ys, xs = [V.ref p] ∧ ((SqL K H p ys ∧ ∀ l, H l = none → Q (.ref l) (upd H l (.tup ys))) ∨ (SqT K H p ys ∧ Q (.ref p) H))) [x] P := fun H0 H vs Q s rs q => by
  obtain ⟨v, rfl, r1⟩ := one_rep rs
  rcases hx with hx | rfl
  · obtain ⟨a, xs, rfl, ha, hr⟩ := s.lst r1 hx
    refine ⟨a, xs, rfl, .inl ⟨SqL.of ha, fun p hp => ?_⟩⟩
    have h0 := s.fresh0 hp
    refine q _ (.tup ds) M _ _ (same_new h0) (s.newP hp) ?_ k
    unfold Rep
    exact ⟨p, _, rfl, upd_same, hr.up (same_new h0)⟩
  · obtain ⟨a, xs, rfl, ha0, ha, hr⟩ := s.tup r1 rfl
    refine ⟨a, xs, rfl, .inr ⟨SqT.of ha, q _ (.tup ds) M H0 H (Same.refl _) s ?_ k⟩⟩
    unfold Rep
    exact ⟨a, xs, rfl, ha0, hr⟩
def dBls (bs : List Bool) : List Dt := bs.map Dt.b
theorem repL_bls {H : Hp} : ∀ {xs : List Bool} {vs : List V}, RepL H (dBls xs) vs → vs = xs.map V.bl
  | [], vs, h => h
  | x :: xs, vs, h => by
    unfold dBls at h
    rw [List.map_cons] at h
    unfold RepL at h
    obtain ⟨y, r, rfl, h1, h2⟩ := h
    unfold Rep at h1
    rw [h1, repL_bls (xs := xs) h2]
    rfl
theorem c_all {x : Dt} {bs : List Bool} (hx : vw M x = .lst (dBls bs)) (k : P (.b (bs.all id)) M) : Cb L M (rAll K) [x] P := fun H0 H vs Q s rs q => by
  obtain ⟨v, rfl, r1⟩ := one_rep rs
  obtain ⟨a, xs, rfl, ha, hr⟩ := s.lst r1 hx
  rw [repL_bls hr] at ha
  exact ⟨a, bs, rfl, SqL.of ha, q _ (.b (bs.all id)) M H0 H (Same.refl _) s (by unfold Rep; rfl) k⟩
theorem c_any {x : Dt} {bs : List Bool} (hx : vw M x = .lst (dBls bs)) (k : P (.b (bs.any id)) M) : Cb L M (rAny K) [x] P := fun H0 H vs Q s rs q => by
  obtain ⟨v, rfl, r1⟩ := one_rep rs
  obtain ⟨a, xs, rfl, ha, hr⟩ := s.lst r1 hx
  rw [repL_bls hr] at ha
  exact ⟨a, bs, rfl, SqL.of ha, q _ (.b (bs.any id)) M H0 H (Same.refl _) s (by unfold Rep; rfl) k⟩
theorem c_strS {x : Str} (k : P (.s x) M) : Cb L M (fun xs H Q => ∃ a, xs = [V.str a] ∧ Q (.str a) H) [.s x] P := fun H0 H vs Q s rs q => by
  obtain ⟨v, rfl, r1⟩ := one_rep rs
  unfold Rep at r1
  subst r1
  exact ⟨x, rfl, q _ (.s x) M H0 H (Same.refl _) s (by unfold Rep; rfl) k⟩
end
end K85
set_option maxRecDepth 100000
set_option maxHeartbeats 1000000
/-! Rules for what the program has and the layer lacks: own operators, len, subscripts; instances called through a field; static methods. -/
namespace K85
open PySem PySem.Spec PyProof.Rows L2

section
variable {X : Cx} {pins : List (Addr × Obj)} {σ : L2.St} {H : Hp} {s : Shared} {k : Nat} {f C : Addr} {fd : FuncData} {ps : List Str} {sp : Sp} {E : XK}
/-- a def at f called anywhere below the running body -/
theorem run_at {A : Around} {Q : VK} {us : List Value} {vs : List V} (hA : A.frames = X.A.frames) (hr : Room k A) (F : FnOk X.prog X.w X.K X.mg X.base CX0 k f fd ps sp) (hb : Binds X.K fd ps []) (I : Inv X pins σ H s) (r : Vals vs us) (h : sp vs H Q E) :
    wpAny (model X.prog X.w) A (call (.ref f) us) (EP X pins σ Q) X.xe s := by
  have e0 : Env0 X.prog X.w X.K X.mg X.base A X.stack s H := by
    have e := I.env0
    exact ⟨by rw [hA]; exact e.frames, e.mod, e.bs, e.bsz, e.funs, e.frf, e.hok, e.bare⟩
  have hl := F.len _ _ _ _ h
  have hz : us.length = ps.length := by rw [← r.length]; exact hl
  refine wpAny_call (codeAny_mono (F.run A X.stack s H ⟨us, []⟩ us vs _ E hr e0 (by
    have z := hb s us I.kIn (by rw [List.append_nil]; exact hz)
    rw [List.append_nil] at z
    exact z) r h) fun q s' hq => ?_)
  cases q with
  | error e => exact False.elim hq
  | ok fl =>
    cases fl with
    | ret w => exact I.after hq
    | next => exact False.elim hq
    | brk => exact False.elim hq
    | cont => exact False.elim hq
theorem back_of {v : V} {u : Value} {Q : Value → Shared → Prop} {s' : Shared} (r : RelV v u) (h : Q u s') : PySem.W.CmpBack Q u s' := by
  cases v with
  | non => cases r; exact h
  | bl _ => cases r; exact h
  | int _ => obtain ⟨t, rfl⟩ := r; exact h
  | str _ => obtain ⟨t, rfl⟩ := r; exact h
  | byt _ => obtain ⟨t, rfl⟩ := r; exact h
  | flt _ => obtain ⟨t, rfl⟩ := r; exact h
  | ref _ => cases r; exact h
  | ty _ => cases r; exact h
/-- an instance as the library looks at it -/
theorem at_ins {a dx : Addr} {fs : List (Str × V)} (I : Inv X pins σ H s) (h : H a = some (.ins C dx fs)) : ∃ ox od, PySem.W.InstAt s.heap a ox C (some od) ∧ ox.data = .plain := by
  obtain ⟨mA, O, _⟩ := ins_get I.hok h
  obtain ⟨od, J, _⟩ := O.look
  exact ⟨_, _, J, rfl⟩
def InsAt (H : Hp) (C : Addr) (x : V) : Prop := ∃ a dx fs, x = .ref a ∧ H a = some (.ins C dx fs)

/-! x | y, x & y of two instances of one class -/
def rOwn2 (C : Addr) (sp : Sp) (E : XK) : R2 := fun x y H Q => InsAt H C x ∧ InsAt H C y ∧ sp [x, y] H Q E
theorem op_own2 {op : Operator} (F : FnOk X.prog X.w X.K X.mg X.base CX0 k f fd ps sp) (hr : Room k X.A) (hb : Binds X.K fd ps []) (hc : PySem.W.selfFirst X.K C = true)
    (hs : PySem.W.findIn X.K (.ref C) (PySem.dunder op.info.2) = some (some (.ref f))) (hf : PySem.W.isFn X.K (.ref f) = true) : OpR X (binaryOp op) (rOwn2 C sp E) := by
  intro pins s σ H x y v u Q I rx ry h
  obtain ⟨⟨a, dx, fs, rfl, ha⟩, ⟨b, dy, gs, rfl, hb'⟩, h⟩ := h
  cases rx
  cases ry
  obtain ⟨ox, od, J, _⟩ := at_ins I ha
  obtain ⟨oy, od', J', _⟩ := at_ins I hb'
  obtain ⟨m, hF⟩ := I.fr
  refine PySem.W.binop_K hF I.ok.mod.kin J J'.type hc hs hf ?_
  exact thn (run_at (vs := [.ref a, .ref b]) rfl hr F hb I (.cons rfl (.cons rfl .nil)) h) fun w s' q => by
    obtain ⟨z, H', I', rz, q⟩ := id q
    exact back_of rz ⟨z, H', I', rz, q⟩
/-- ~x -/
theorem un_own (F : FnOk X.prog X.w X.K X.mg X.base CX0 k f fd ps sp) (hr : Room k X.A) (hb : Binds X.K fd ps []) (hs : PySem.W.findIn X.K (.ref C) "__invert__" = some (some (.ref f))) (hf : PySem.W.isFn X.K (.ref f) = true) :
    UnR X (unaryOp .Invert) (fun x H Q => InsAt H C x ∧ sp [x] H Q E) := by
  intro pins s σ H x v Q I rx h
  obtain ⟨⟨a, dx, fs, rfl, ha⟩, h⟩ := h
  cases rx
  obtain ⟨ox, od, J, _⟩ := at_ins I ha
  obtain ⟨m, hF⟩ := I.fr
  exact PySem.W.ksp_inv hF I.ok.mod.kin J hs hf (run_at (vs := [.ref a]) rfl hr F hb I (.cons rfl .nil) h)
/-- o[i] = v -/
theorem set_own (F : FnOk X.prog X.w X.K X.mg X.base CX0 k f fd ps sp) (hr : Room k X.A) (hb : Binds X.K fd ps []) (hq : PySem.W.noSeq X.K C = true) (hs : PySem.W.findIn X.K (.ref C) "__setitem__" = some (some (.ref f))) (hf : PySem.W.isFn X.K (.ref f) = true) :
    PSet X (fun o i v H Q => InsAt H C o ∧ sp [o, i, v] H (fun _ H' => Q H') E) := by
  intro pins s σ H o i v ov iv u Q I ro ri rv h
  obtain ⟨⟨a, dx, fs, rfl, ha⟩, h⟩ := h
  cases ro
  obtain ⟨ox, od, J, _⟩ := at_ins I ha
  obtain ⟨m, hF⟩ := I.fr
  refine PySem.W.ksp_setItem hF I.ok.mod.kin J hq hs hf ?_
  exact thn (run_at (vs := [.ref a, i, v]) rfl hr F hb I (.cons rfl (.cons ri (.cons rv .nil))) h) fun w s' ⟨z, H', I', _, q⟩ => ⟨H', I', q⟩
/-- len(o) -/
def rLenOwn (C : Addr) (sp : Sp) (E : XK) : List V → Hp → VK → Prop := fun xs H Q => ∃ x, xs = [x] ∧ InsAt H C x ∧ sp [x] H (fun v H' => ∃ n : Int, v = .int n ∧ (0 ≤ n ∧ n ≤ 1000) ∧ Q v H') E
theorem len_own (F : FnOk X.prog X.w X.K X.mg X.base CX0 k f fd ps sp) (hr : Room (k + 1) X.A) (hb : Binds X.K fd ps []) (hs : PySem.W.findIn X.K (.ref C) "__len__" = some (some (.ref f))) (hf : PySem.W.isFn X.K (.ref f) = true) :
    CallR X (.builtin "len") (rLenOwn C sp E) := by
  intro pins s σ H xs us Q I r h
  obtain ⟨x, rfl, ⟨a, dx, fs, rfl, ha⟩, h⟩ := h
  obtain ⟨u, rfl, ru⟩ := Vals.one r
  cases ru
  obtain ⟨ox, od, J, _⟩ := at_ins I ha
  obtain ⟨m, hF⟩ := I.fr
  refine PySem.W.len_K hF I.ok.mod.kin J hs hf ?_
  exact thn (run_at (A := X.A.in1) (vs := [.ref a]) rfl hr.in1 F hb I (.cons rfl .nil) h) fun w s' ⟨z, H', I', rz, n, ez, hn, q⟩ => by
    subst ez
    obtain ⟨t, rfl⟩ := rz
    exact ⟨⟨by omega, by omega⟩, .int n, H', I'.tok _, ⟨_, rfl⟩, q⟩
/-- o[i], by the class's own subscript -/
theorem pe_ixOwn {a b : Expr} {pos : Pos} {ta tb : TE} (ha : PE X a ta) (hb' : PE X b tb) (F : FnOk X.prog X.w X.K X.mg X.base CX0 k f fd ps sp) (hr : Room (k + 1) X.A) (hb : Binds X.K fd ps [])
    (hs : PySem.W.findIn X.K (.ref C) "__getitem__" = some (some (.ref f))) (hfi : PySem.W.fnIn X.K f = true) (hf : PySem.W.isFn X.K (.ref f) = true)
    (hsl : ∀ o i, subscripted b true o i = PySem.runValue (.builtin "lifetime.subscript" ⟨[o, i], []⟩) := by intro _ _; rfl) :
    PE X (.Subscript a b pos) (tOp (fun x y H Q => InsAt H C x ∧ sp [x, y] H Q E) ta tb) := by
  refine ⟨fun pins s σ H Q I h => ?_⟩
  refine Subscript_ (binT ha hb' I h fun v u s2 x y H2 I2 rx ry q => ?_)
  obtain ⟨⟨o, dx, fs, rfl, ho⟩, q⟩ := q
  cases rx
  obtain ⟨ox, od, J, _⟩ := at_ins I2 ho
  obtain ⟨m, hF⟩ := I2.fr
  exact PySem.W.sub_K hF I2.ok.mod.kin J hs hfi hf (run_at (A := X.A.in1) (vs := [.ref o, y]) rfl hr.in1 F hb I2 (.cons rfl (.cons ry .nil)) q) (hsl _ _)
end
end K85
set_option maxRecDepth 100000
set_option maxHeartbeats 1000000
/-! More rules: an instance called through a field, static methods, a walk over a list or a tuple, is of bools, count, dict(d). -/
namespace K85
open PySem PySem.Spec PyProof.Rows L2

section
variable {X : Cx} {pins : List (Addr × Obj)} {σ : L2.St} {H : Hp} {s : Shared} {k : Nat} {f C D : Addr} {fd : FuncData} {ps : List Str} {sp : Sp} {E : XK} {o e : Expr} {es : List Expr} {m : Str} {pos apos : Pos} {ta : TE} {t : TA} {pl : Sem Bool}
/-- a name that no class of it has, as a method's: what the instance holds -/
theorem getmeth_fld {a dx : Addr} {fs : List (Str × V)} {v : V} {A : Around} {E : Value → Shared → Prop} {Q : Value × List Value → Shared → Prop} (I : Inv X pins σ H s) (h : H a = some (.ins C dx fs)) (c : Cls X.K C) (n : NoAttr X.K C m) (l : fs.lookup m = some v)
    (q : ∀ u s', Inv X pins σ H s' → RelV v u → Q (u, []) s') : wpAny (model X.prog X.w) A (getMethod (.ref a) m pl) Q E s := by
  have hcan := PySem.F.canon_object_ga
  obtain ⟨ox, od, J, _⟩ := at_ins I h
  have hg := PySem.W.plainGet_of (c.get m)
  have hn : PySem.W.findIn X.K (.ref C) m = some none := n
  unfold getMethod specialOf
  refine wpAny_bind (wpAny_bind (J.type.here ((PySem.W.looks_findIn I.kIn hg.1).here ?_)))
  dsimp only
  rw [hcan, if_neg (by decide)]
  refine wpAny_bind (wpAny_bind (J.type.here ((PySem.W.looks_findIn I.kIn hg.2).here ?_)))
  refine wpAny_bind (wpAny_bind (J.type.here ((PySem.W.looks_findIn I.kIn hn).here ?_)))
  refine wpAny_bind (getattr_ok I h c n l fun u s' I' r => ?_)
  exact wpAny_pure (q u s' I' r)
/-- o.m(e, ..), m a field that holds an instance of the class at D, whose __call__ stands at f -/
def tFCall (K : PySem.W.Frag) (m : Str) (D : Addr) (sp : Sp) (E : XK) (ta : TE) (t : TA) : TE := fun σ H Q => ta σ H fun x H1 => ∃ a C dx fs y, x = .ref a ∧ H1 a = some (.ins C dx fs) ∧ Cls K C ∧ NoAttr K C m ∧ fs.lookup m = some (.ref y) ∧
  t σ H1 fun vs H2 => (∃ dy gs, H2 y = some (.ins D dy gs)) ∧ sp (.ref y :: vs) H2 Q E
theorem pe_fcall (he : PE X o ta) (F : FnOk X.prog X.w X.K X.mg X.base CX0 k f fd ps sp) (hr : Room k X.A) (hb : Binds X.K fd ps []) (c : StX.CallO X.K D f) (ha : PA X (e :: es) t)
    (hst : starEach (e :: es) X.env = (false, eval e X.env) :: starEach es X.env := by rfl) (hpl : (backTo pos (starEach es X.env)).any (·.1) = false := by rfl)
    (ht : eval (.Call (.Attribute o m apos) (e :: es) [] pos) X.env = (do
      let ov ← eval o X.env
      standAt apos.atName
      let (f, first) ← holding [ov] (getMethod ov m pl)
      callWith pos f first (backTo pos (starEach (e :: es) X.env)) (backToKw pos (keywordEach [] X.env))) := by rfl) :
    PE X (.Call (.Attribute o m apos) (e :: es) [] pos) (tFCall X.K m D sp E ta t) := by
  refine ⟨fun pins s σ H Q I h => ?_⟩
  refine PySem.W.methodCall_KW (pl := pl) (thn (he.run pins s σ H _ I h) fun u s1 ⟨x, H1, I1, rx, a, C, dx, fs, y, ex, hx, hc, hn, hl, q⟩ => ?_) ht
  subst ex
  obtain rfl : u = Value.ref a := rx
  refine getmeth_fld I1 hx hc hn hl fun u' s2 I2 ru => ?_
  obtain rfl : u' = Value.ref y := ru
  refine StX.callO_with (thn (ha.run pos pins s2 σ H1 _ I2 q) fun us s3 ⟨vs, H3, I3, rv, ⟨dy, gs, hy⟩, q3⟩ => ?_) hst hpl
  obtain ⟨oy, ody, J, hp⟩ := at_ins I3 hy
  refine ⟨⟨D, oy, _, J, hp⟩, wpAny_call (PySem.W.kco_code I3.kIn J hp c.at_ c.fn c.fi ?_)⟩
  have e0 := I3.env0
  have hlen := F.len _ _ _ _ q3
  have rv' : Vals (.ref y :: vs) (.ref y :: us) := .cons rfl rv
  have hz : (Value.ref y :: us).length = ps.length := by rw [← rv'.length]; exact hlen
  refine codeAny_mono (F.run X.A X.stack s3 H3 ⟨.ref y :: us, []⟩ (.ref y :: us) (.ref y :: vs) Q E hr e0 (by
    have z := hb s3 (.ref y :: us) I3.kIn (by rw [List.append_nil]; exact hz)
    rw [List.append_nil] at z
    exact z) rv' q3) fun r s' hq => ?_
  cases r with
  | error e => exact False.elim hq
  | ok fl =>
    cases fl with
    | ret w => exact I3.after hq
    | next => exact False.elim hq
    | brk => exact False.elim hq
    | cont => exact False.elim hq

/-! static methods -/
structure SMet (K : PySem.W.Frag) (C : Addr) (m : Str) (p f : Addr) : Prop where
  rd : PySem.W.readsIn K C (.type "type") = true
  ga : PySem.W.specialIn K (.ref C) "__getattribute__" = some (some (.builtin "type.__getattribute__"))
  ty : PySem.W.typeIn K (.ref C) = some (.type "type")
  find : PySem.W.findCls K (.ref C) (.type "type") m = some (.get (.builtin "staticmethod.__get__") (.ref p) .none (.ref C))
  rc : ∃ rest, PySem.W.recIn K p "staticmethod" = some (.ref f :: rest)
  kp : PySem.W.keepIn K (.ref f) = true
theorem getmeth_sm {p : Addr} {A : Around} {E : Value → Shared → Prop} {Q : Value × List Value → Shared → Prop} (I : Inv X pins σ H s) (S : SMet X.K C m p f)
    (q : ∀ s', Inv X pins σ H s' → Q (.ref f, []) s') : wpAny (model X.prog X.w) A (getMethod (.ref C) m pl) Q E s := by
  obtain ⟨rest, hp⟩ := S.rc
  obtain ⟨mm, hF⟩ := I.fr
  exact PySem.W.method_of_cls hF I.ok.mod.kin S.ga (PySem.W.cls_sm hF I.ok.mod.kin S.ty S.rd S.find hp rfl (q _ (I.tok _)))
def tSm (C : Addr) (sp : Sp) (E : XK) (ta : TE) (t : TA) : TE := fun σ H Q => ta σ H fun x H1 => x = .ref C ∧ t σ H1 fun vs H2 => sp vs H2 Q E
theorem pe_sm {p : Addr} (he : PE X o ta) (S : SMet X.K C m p f) (F : FnOk X.prog X.w X.K X.mg X.base CX0 k f fd ps sp) (hr : Room k X.A) (hb : Binds X.K fd ps []) (ha : PA X (e :: es) t)
    (hst : starEach (e :: es) X.env = (false, eval e X.env) :: starEach es X.env := by rfl) (hpl : (backTo pos (starEach es X.env)).any (·.1) = false := by rfl)
    (ht : eval (.Call (.Attribute o m apos) (e :: es) [] pos) X.env = (do
      let ov ← eval o X.env
      standAt apos.atName
      let (f, first) ← holding [ov] (getMethod ov m pl)
      callWith pos f first (backTo pos (starEach (e :: es) X.env)) (backToKw pos (keywordEach [] X.env))) := by rfl) :
    PE X (.Call (.Attribute o m apos) (e :: es) [] pos) (tSm C sp E ta t) := by
  refine ⟨fun pins s σ H Q I h => ?_⟩
  refine PySem.W.methodCall_KW (pl := pl) (thn (he.run pins s σ H _ I h) fun u s1 ⟨x, H1, I1, rx, ex, q⟩ => ?_) ht
  subst ex
  obtain rfl : u = Value.ref C := rx
  refine getmeth_sm I1 S fun s2 I2 => ?_
  refine PySem.W.callWith_K (first := []) (h₀ := X.base) I.ok.mod.kin S.kp (thn (ha.run pos pins s2 σ H1 _ I2 q) fun us s3 ⟨vs, H3, I3, rv, q3⟩ => ⟨I3.kIn, ?_⟩) hst hpl
  exact run_at rfl hr F hb I3 rv q3
theorem pe_sm0 {p : Addr} (he : PE X o ta) (S : SMet X.K C m p f) (F : FnOk X.prog X.w X.K X.mg X.base CX0 k f fd ps sp) (hr : Room k X.A) (hb : Binds X.K fd ps [])
    (ht : eval (.Call (.Attribute o m apos) [] [] pos) X.env = (do
      let ov ← eval o X.env
      standAt apos.atName
      let (f, first) ← holding [ov] (getMethod ov m pl)
      callWith pos f first (backTo pos (starEach [] X.env)) (backToKw pos (keywordEach [] X.env))) := by rfl) :
    PE X (.Call (.Attribute o m apos) [] [] pos) (tSm C sp E ta tNil) := by
  refine ⟨fun pins s σ H Q I h => ?_⟩
  refine PySem.W.methodCall_KW (pl := pl) (thn (he.run pins s σ H _ I h) fun u s1 ⟨x, H1, I1, rx, ex, q⟩ => ?_) ht
  subst ex
  obtain rfl : u = Value.ref C := rx
  refine getmeth_sm I1 S fun s2 I2 => ?_
  exact PySem.W.callWith_K0 (first := []) I2.kIn S.kp (run_at rfl hr F hb I2 .nil q)

/-! a walk over a list or a tuple -/
def iSeq (K : PySem.W.Frag) (tl : TE) : TI := fun σ H R => tl σ H fun x H1 => ∃ a, x = .ref a ∧ (((∃ xs, SqL K H1 a xs) ∧ R (Itl K a) H1) ∨ ((∃ xs, SqT K H1 a xs) ∧ R (Itt K a) H1))
theorem pi_seq {tg l : Expr} {tl : TE} (hl : PE X l tl) : PI X tg l (iSeq X.K tl) := by
  have hL := pi_list (tg := tg) hl
  have hT := pi_tup (tg := tg) hl
  refine ⟨fun pins s σ H R I h => ?_⟩
  refine thn (hl.run pins s σ H _ I h) fun v s1 ⟨x, H1, I1, r1, a, ex, q⟩ => ?_
  subst ex
  obtain rfl : v = Value.ref a := r1
  rcases q with ⟨⟨xs, hq⟩, q⟩ | ⟨⟨xs, hq⟩, q⟩
  · obtain ⟨its, rv, p, hz⟩ := I1.list hq
    refine wpAny_pyIter_list p.isList ?_
    refine ⟨s1.heap.objs.size, [s1.heap.objs.size], _, _, H1, rfl, I1.kept (t' := s1.toks) fun b o e => Heap.get?_push_of_some _ e, turn_list a _, ⟨_, Heap.get?_push_size _ rfl, rfl, rfl⟩, fun b hb => ?_, q⟩
    cases List.mem_singleton.mp hb
    exact I1.fpOk (Nat.le_refl _) (I1.hok.fresh (Nat.le_refl _))
  · obtain ⟨its, rv, p, hz⟩ := I1.tuple hq
    refine wpAny_pyIter_tuple (show s1.heap.IsTuple a its.toArray from p) ?_
    refine ⟨s1.heap.objs.size, [s1.heap.objs.size], _, _, H1, rfl, I1.kept (t' := s1.toks) fun b o e => Heap.get?_push_of_some _ e, turn_tuple a _, ⟨_, Heap.get?_push_size _ rfl, rfl, rfl⟩, fun b hb => ?_, q⟩
    cases List.mem_singleton.mp hb
    exact I1.fpOk (Nat.le_refl _) (I1.hok.fresh (Nat.le_refl _))

/-! x is True, x is not False: x None, a bool, a text -/
def flatB3 : V → Bool
  | .non => true
  | .bl _ => true
  | .str _ => true
  | _ => false
def rIsBl (neg : Bool) : R2 := fun x y H Q => ∃ b, y = .bl b ∧ flatB3 x = true ∧ Q (.bl (if neg then !decide (x = .bl b) else decide (x = .bl b))) H
theorem op_isB3 : OpR X (compareOp .Is) (rIsBl false) := by
  intro pins s σ H x y v u Q I rx ry h
  obtain ⟨b, rfl, hf, q⟩ := h
  cases (show u = Value.bool b from ry)
  cases x with
  | non =>
    cases (show v = Value.none from rx)
    exact wpAny_is_other rfl (fun z => nomatch z) ⟨.bl false, H, I, rfl, q⟩
  | bl a =>
    cases (show v = Value.bool a from rx)
    by_cases e : a = b
    · subst e
      exact wpAny_is_self rfl ⟨.bl true, H, I, rfl, by simpa using q⟩
    · exact wpAny_is_other rfl (fun z => e (Value.bool.inj z)) ⟨.bl false, H, I, rfl, by simpa [e] using q⟩
  | str z =>
    obtain ⟨t, rfl⟩ := rx
    exact wpAny_is_other rfl (fun z => nomatch z) ⟨.bl false, H, I, rfl, q⟩
  | _ => cases hf
theorem op_notB3 : OpR X (compareOp .IsNot) (rIsBl true) := by
  intro pins s σ H x y v u Q I rx ry h
  obtain ⟨b, rfl, hf, q⟩ := h
  cases (show u = Value.bool b from ry)
  cases x with
  | non =>
    cases (show v = Value.none from rx)
    exact wpAny_isNot_other rfl (fun z => nomatch z) ⟨.bl true, H, I, rfl, q⟩
  | bl a =>
    cases (show v = Value.bool a from rx)
    by_cases e : a = b
    · subst e
      exact wpAny_isNot_self rfl ⟨.bl false, H, I, rfl, by simpa using q⟩
    · exact wpAny_isNot_other rfl (fun z => e (Value.bool.inj z)) ⟨.bl true, H, I, rfl, by simpa [e] using q⟩
  | str z =>
    obtain ⟨t, rfl⟩ := rx
    exact wpAny_isNot_other rfl (fun z => nomatch z) ⟨.bl true, H, I, rfl, q⟩
  | _ => cases hf

/-! xs.count(z) of texts -/
def eqsB (z : Str) (v : Value) : Bool := match v with
  | .str y _ => decide (y = z)
  | _ => false
theorem eqs_count {z : Str} : ∀ {ys : List Str} {us : List Value}, Vals (ys.map V.str) us → us.countP (eqsB z) = ys.count z
  | [], us, r => by
    cases r
    rfl
  | y :: ys, us, r => by
    rw [List.map_cons] at r
    cases r with
    | cons r rr =>
      obtain ⟨t, rfl⟩ := r
      rw [List.countP_cons, eqs_count rr, List.count_cons]
      show ys.count z + (if decide (y = z) = true then 1 else 0) = ys.count z + if (y == z) = true then 1 else 0
      by_cases e : y = z
      · subst e
        simp
      · simp [e]
def rCntS (K : PySem.W.Frag) : V → List V → Hp → VK → Prop := fun x xs H Q => ∃ (p : Addr) (ys : List Str) (z : Str), x = .ref p ∧ xs = [.str z] ∧ SqL K H p (ys.map V.str) ∧ Q (.int ((ys.count z : Nat) : Int)) H
theorem mt_scount : MtR X "list.count" (rCntS X.K) := by
  intro pins s σ H x xs v us Q I rx rxs h
  obtain ⟨p, ys, z, rfl, rfl, hs, q⟩ := h
  cases rx
  obtain ⟨u, rfl, ru⟩ := rxs.one
  have ru' := ru
  obtain ⟨t, rfl⟩ := ru
  obtain ⟨its, rv, ⟨⟨cls, dd, data, sl⟩, n, ho, hc, hdn, hd⟩, hlen⟩ := I.list hs
  simp only at hc hd
  subst hc hd
  refine call_meets PySem.F.slot_list_count ⟨_, ho, rfl⟩ PySem.F.entry_list_count (PySem.F.args_list_count_2 _ _)
    (SeqAt.list_countAt p its.toArray n dd sl (.str z t) (eqsB z)) ⟨ho, fun y hy => ?_, ?_⟩
  · have hy' : y ∈ its := by simpa using hy
    obtain ⟨i, hi, ei⟩ := List.getElem_of_mem hy'
    have hl := rv.length
    rw [List.length_map] at hl
    have e2 : (ys.map V.str)[i]? = some (V.str (ys[i]'(by omega))) := by
      rw [List.getElem?_map, List.getElem?_eq_getElem (by omega : i < ys.length)]
      rfl
    obtain ⟨w, hw, rw'⟩ := rv.get e2
    rw [List.getElem?_eq_getElem hi, ei] at hw
    cases hw
    have g := eqAt_V (A := X.A.in1) (s := s) rw' ru' rfl rfl
    obtain ⟨t', rfl⟩ := rw'
    exact g
  · refine ⟨.int ((ys.count z : Nat) : Int), H, I.tok _, ⟨s.toks, ?_⟩, q⟩
    show Value.int ((its.toArray.toList.countP (eqsB z) : Nat) : Int) s.toks = Value.int ((ys.count z : Nat) : Int) s.toks
    have e : its.toArray.toList = its := by simp
    rw [e, eqs_count rv]

/-! dict(d) -/
theorem cr_dictOf : CallR X (.type "dict") (fun xs H Q => ∃ a kvs, xs = [V.ref a] ∧ Rd H a (.dK kvs) ∧ ∀ p, H p = none → Q (.ref p) (upd H p (.dK kvs))) := by
  intro pins s σ H xs us Q I r h
  obtain ⟨a, kvs, rfl, ha, q⟩ := h
  obtain ⟨u, rfl, ru⟩ := Vals.one r
  cases ru
  exact d_copyOf I ha fun p s' hp I' => ⟨.ref p, _, I', rfl, q p hp⟩
end
end K85
set_option maxRecDepth 100000
set_option maxHeartbeats 1000000
/-! Symbolic rules, continued: chains, texts, own operators, fields called, locks. -/
namespace K85
open PySem L2
section
variable {L : Lk} {Γ Γ' : Gm} {M M' : Mm} {ta tb tc te tv td ty tx : TE} {t u : TT} {P : Dt → Mm → Prop} {r r' : R2} {K : PySem.W.Frag} {d : Dt} {tr : TA} {g : TG} {vs : List Nat} {wi : TI} {Es' : Es} {S : FS} {E : XK} {C : Addr} {m : Str}
theorem e_chain (h : Ev L Γ M ta fun x M1 => Ev L Γ M1 tb fun y M2 => Op L M2 r x y fun z M3 => ∃ k, z = .b k ∧ if k = true then Ev L Γ M3 tc fun w M4 => Op L M4 r' y w P else P (.b false) M3) : Ev L Γ M (tChain r r' ta tb tc) P := fun σ H0 H Q s g q =>
  h σ H0 H _ s g fun v x M1 H1 H1' e1 s1 r1 p => p σ H1 H1' _ s1 (g.up e1) fun w y M2 H2 H2' e2 s2 r2 p => p H2 H2' v w _ s2 (r1.up e2) r2 fun z dz M3 H3 H3' e3 s3 r3 p => by
    obtain ⟨k, rfl, p⟩ := p
    unfold Rep at r3
    refine ⟨k, r3, ?_⟩
    cases k with
    | false => exact q _ (.b false) M3 H3 H3' ((e1.trans e2).trans e3) s3 (by unfold Rep; rfl) p
    | true => exact p σ H3 H3' _ s3 (g.up ((e1.trans e2).trans e3)) fun v' w' M4 H4 H4' e4 s4 r4 p4 => p4 H4 H4' w v' Q s4 (r2.up (e3.trans e4)) r4 fun z' d' M5 H5 H5' e5 s5 r5 p5 => q z' d' M5 H5 H5' ((((e1.trans e2).trans e3).trans e4).trans e5) s5 r5 p5
theorem c_lenS {x : Str} (hx : x.length ≤ 100000) (k : P (.i (x.length : Int)) M) : Cb L M (fun xs H Q => ∃ z, xs = [V.str z] ∧ z.length ≤ sizeLine ∧ Q (.int z.length) H) [.s x] P := fun H0 H vs Q s rs q => by
  obtain ⟨v, rfl, r1⟩ := one_rep rs
  unfold Rep at r1
  subst r1
  exact ⟨x, rfl, Nat.le_trans hx (by decide), q _ (.i (x.length : Int)) M H0 H (Same.refl _) s (by unfold Rep; rfl) k⟩
def signs (x : Str) : List Dt := x.cps.toList.map fun c => Dt.s ⟨#[c]⟩
theorem yl_str {x : Str} {H0 : Hp} : Yl L (Its x) H0 (signs x) := fun H0' M H e s => by
  have hl : (signs x).length = x.cps.size := by unfold signs; rw [List.length_map, Array.length_toList]
  refine ⟨fun i hi => by rw [hl] at hi; exact hi, fun i hi => by rw [hl] at hi; exact hi, fun i d y H' hd z => ?_⟩
  obtain ⟨rfl, c, hc, rfl⟩ := z
  unfold signs at hd
  rw [List.getElem?_map, Array.getElem?_toList, hc] at hd
  cases hd
  exact ⟨H0', Same.refl _, s, by unfold Rep; rfl⟩
theorem i_str {PI' : List Dt → Mm → Prop} (h : Ev L Γ M te fun d M1 => ∃ x, d = .s x ∧ PI' (signs x) M1) : Iv L Γ M (iStr te) PI' := fun σ H0 H R s g q =>
  h σ H0 H _ s g fun v d M1 H1 H1' e s1 r p => by
    obtain ⟨x, rfl, p⟩ := p
    unfold Rep at r
    exact ⟨x, r, q _ _ M1 H1 H1' e s1 yl_str p⟩
theorem i_seq {PI' : List Dt → Mm → Prop} (h : Ev L Γ M ta fun x M1 => ∃ ds, (x = .lst ds ∨ x = .tup ds) ∧ PI' ds M1) : Iv L Γ M (iSeq K ta) PI' := fun σ H0 H R s g q =>
  h σ H0 H _ s g fun v x M1 H1 H1' e s1 rr p => by
    obtain ⟨ds, hx | hx, p⟩ := p
    · subst hx
      have rr' := rr
      unfold Rep at rr
      obtain ⟨a, xs, rfl, ha, hr⟩ := rr
      obtain ⟨a', xs', e1, ha', _⟩ := s1.lst rr' rfl
      cases e1
      exact ⟨a, rfl, .inl ⟨⟨xs', SqL.of ha'⟩, q _ ds M1 H1 H1' e s1 (yl_list ha hr) p⟩⟩
    · subst hx
      obtain ⟨a, xs, rfl, ha, ha', hr⟩ := s1.tup rr rfl
      exact ⟨a, rfl, .inr ⟨⟨xs, SqT.of ha'⟩, q _ ds M1 H1 H1' e s1 (yl_tup ha hr) p⟩⟩
theorem o_inSign {c : Nat} {z : Str} (k : P (.b (decide (c ∈ z.cps.toList))) M) : Op L M (fun x y H Q => ∃ (c : Nat) (z : Str), x = .str ⟨#[c]⟩ ∧ y = .str z ∧ Q (.bl (decide (c ∈ z.cps.toList))) H) (.s ⟨#[c]⟩) (.s z) P := fun H0 H v w Q s rx ry q => by
  unfold Rep at rx ry
  subst rx ry
  exact ⟨c, z, rfl, rfl, q _ (.b (decide (c ∈ z.cps.toList))) M H0 H (Same.refl _) s (by unfold Rep; rfl) k⟩
/-- in a tuple of the module -/
theorem o_inK {neg : Bool} {x : Str} {a : Addr} {xs : List Str} (hy : ∀ H, SqT K H a (xs.map V.str)) (k : P (.b (if neg then !decide (x ∈ xs) else decide (x ∈ xs))) M) : Op L M (rIn K neg) (.s x) (.adr a) P := fun H0 H v w Q s rx ry q => by
  unfold Rep at rx ry
  subst rx ry
  refine ⟨a, _, rfl, .inr (hy H), rfl, flat_strs xs, q _ (.b (if neg then !decide (x ∈ xs) else decide (x ∈ xs))) M H0 H (Same.refl _) s ?_ k⟩
  unfold Rep
  rw [inV_strs]
theorem o_addS {x y : Str} (hl : x.length + y.length ≤ 100000) (k : P (.s (x ++ y)) M) : Op L M (fun x y H Q => ∃ i j, x = .str i ∧ y = .str j ∧ i.length + j.length ≤ sizeLine ∧ Q (.str (i ++ j)) H) (.s x) (.s y) P := fun H0 H v w Q s rx ry q => by
  unfold Rep at rx ry
  subst rx ry
  exact ⟨x, y, rfl, rfl, Nat.le_trans hl (by decide), q _ (.s (x ++ y)) M H0 H (Same.refl _) s (by unfold Rep; rfl) k⟩
theorem o_isB {neg : Bool} {x : Dt} {b : Bool} {v : V} (hx : fV x = some v) (hf : flatB3 v = true) (k : P (.b (if neg then !decide (v = .bl b) else decide (v = .bl b))) M) : Op L M (rIsBl neg) x (.b b) P := fun H0 H v' w Q s rx ry q => by
  cases fV_rep hx rx
  unfold Rep at ry
  subst ry
  exact ⟨b, rfl, hf, q _ (.b (if neg then !decide (v = .bl b) else decide (v = .bl b))) M H0 H (Same.refl _) s (by unfold Rep; rfl) k⟩
theorem m_count {x : Dt} {ys : List Str} {z : Str} (hx : vw M x = .lst (dStrs ys)) (k : P (.i ((ys.count z : Nat) : Int)) M) : Mt L M (rCntS K) x [.s z] P := fun H0 H v vs Q s rx rs q => by
  obtain ⟨w, rfl, r1⟩ := one_rep rs
  unfold Rep at r1
  subst r1
  obtain ⟨a, xs, rfl, ha, hr⟩ := s.lst rx hx
  rw [repL_strs hr] at ha
  exact ⟨a, ys, z, rfl, rfl, SqL.of ha, q _ (.i ((ys.count z : Nat) : Int)) M H0 H (Same.refl _) s (by unfold Rep; rfl) k⟩
theorem c_dictOf {x : Dt} {kvs : List (Str × Dt)} (hx : vw M x = .dK kvs) (k : P (.dK kvs) M) : Cb L M (fun xs H Q => ∃ a kvs, xs = [V.ref a] ∧ Rd H a (.dK kvs) ∧ ∀ p, H p = none → Q (.ref p) (upd H p (.dK kvs))) [x] P := fun H0 H vs Q s rs q => by
  obtain ⟨v, rfl, r1⟩ := one_rep rs
  obtain ⟨a, ws, rfl, ha, hr, _⟩ := s.dK r1 hx
  refine ⟨a, ws, rfl, ha, fun p hp => ?_⟩
  have h0 := s.fresh0 hp
  refine q _ (.dK kvs) M _ _ (same_new h0) (s.newP hp) ?_ k
  unfold Rep
  exact ⟨p, _, rfl, upd_same, hr.up (same_new h0)⟩

/-! own operators -/
theorem insAt_of {x : Dt} {v : V} {H0 H : Hp} {fs : List (Str × Dt)} (s : SV L M H0 H) (rx : Rep H0 x v) (hx : vw M x = .ins C fs) : InsAt H C v := by
  obtain ⟨a, dx, ws, rfl, ha, _⟩ := s.ins rx hx
  exact ⟨a, dx, ws, rfl, ha⟩
theorem o_own2 {x y : Dt} (hx : ∃ fs, vw M x = .ins C fs) (hy : ∃ fs, vw M y = .ins C fs) (h : ∃ a : S.α, S.pre a [x, y] L M ∧ ∀ d M', S.post a M d M' → P d M') : Op L M (rOwn2 C S.sp E) x y P := fun H0 H v w Q s rx ry q => by
  obtain ⟨fs, hx⟩ := hx
  obtain ⟨gs, hy⟩ := hy
  obtain ⟨a, p1, p2⟩ := h
  exact ⟨insAt_of s rx hx, insAt_of s ry hy, a, L, M, H0, [x, y], s, repL_cons rx (repL_cons ry repL_nil), p1, fun v d M' H0' H' e s' rr p => q v d M' H0' H' e s' rr (p2 d M' p)⟩
theorem o_ixOwn {x y : Dt} (hx : ∃ fs, vw M x = .ins C fs) (h : ∃ a : S.α, S.pre a [x, y] L M ∧ ∀ d M', S.post a M d M' → P d M') : Op L M (fun x y H Q => InsAt H C x ∧ S.sp [x, y] H Q E) x y P := fun H0 H v w Q s rx ry q => by
  obtain ⟨fs, hx⟩ := hx
  obtain ⟨a, p1, p2⟩ := h
  exact ⟨insAt_of s rx hx, a, L, M, H0, [x, y], s, repL_cons rx (repL_cons ry repL_nil), p1, fun v d M' H0' H' e s' rr p => q v d M' H0' H' e s' rr (p2 d M' p)⟩
theorem u_own {x : Dt} (hx : ∃ fs, vw M x = .ins C fs) (h : ∃ a : S.α, S.pre a [x] L M ∧ ∀ d M', S.post a M d M' → P d M') : Mt L M (fun v _ H Q => InsAt H C v ∧ S.sp [v] H Q E) x [] P := fun H0 H v vs Q s rx rs q => by
  obtain ⟨fs, hx⟩ := hx
  obtain ⟨a, p1, p2⟩ := h
  exact ⟨insAt_of s rx hx, a, L, M, H0, [x], s, repL_one rx, p1, fun v d M' H0' H' e s' rr p => q v d M' H0' H' e s' rr (p2 d M' p)⟩
theorem c_lenOwn {x : Dt} (hx : ∃ fs, vw M x = .ins C fs) (h : ∃ a : S.α, S.pre a [x] L M ∧ ∀ d M', S.post a M d M' → ∃ n : Int, d = .i n ∧ (0 ≤ n ∧ n ≤ 1000) ∧ P (.i n) M') : Cb L M (rLenOwn C S.sp E) [x] P := fun H0 H vs Q s rs q => by
  obtain ⟨v, rfl, rx⟩ := one_rep rs
  obtain ⟨fs, hx⟩ := hx
  obtain ⟨a, p1, p2⟩ := h
  refine ⟨v, rfl, insAt_of s rx hx, a, L, M, H0, [x], s, repL_one rx, p1, fun v d M' H0' H' e s' rr p => ?_⟩
  obtain ⟨n, rfl, hn, p⟩ := p2 d M' p
  have rr' := rr
  unfold Rep at rr
  exact ⟨n, rr, hn, q v _ M' H0' H' e s' rr' p⟩
theorem g_subOwn {PG : Gm → Mm → Prop} (h : Ev L Γ M ta fun x M1 => Ev L Γ M1 tb fun y M2 => (∃ fs, vw M2 x = .ins C fs) ∧ ∃ a : S.α, S.pre a [x, y, d] L M2 ∧ ∀ d' M', S.post a M2 d' M' → PG Γ M') :
    Gv L Γ M (gSub ta tb (fun o i v H Q => InsAt H C o ∧ S.sp [o, i, v] H (fun _ H' => Q H') E)) d PG := fun σ H0 H v Q s g rr q =>
  h σ H0 H _ s g fun vx x M1 H1 H1' e1 s1 r1 p => p σ H1 H1' _ s1 (g.up e1) fun vy y M2 H2 H2' e2 s2 r2 p => by
    obtain ⟨⟨fs, hx⟩, a, p1, p2⟩ := p
    refine ⟨insAt_of s2 (r1.up e2) hx, a, L, M2, H2, [x, y, d], s2, repL_cons (r1.up e2) (repL_cons r2 (repL_one (rr.up (e1.trans e2)))), p1, fun v' d' M' H0' H' e s' _ p => ?_⟩
    exact q Γ M' σ H0' H' ((e1.trans e2).trans e) s' (g.up ((e1.trans e2).trans e)) (p2 d' M' p)
theorem g_subL {n : Nat} {PG : Gm → Mm → Prop} (h : Ev L Γ M ta fun x M1 => Ev L Γ M1 tb fun y M2 => ∃ a ds n, x = .adr a ∧ M2 a = some (.lst ds) ∧ y = .i ((n : Nat) : Int) ∧ n < ds.length ∧ PG Γ (mset M2 a (.lst (ds.set n d)))) :
    Gv L Γ M (gSub ta tb rSetL) d PG := fun σ H0 H v Q s g rr q =>
  h σ H0 H _ s g fun vx x M1 H1 H1' e1 s1 r1 p => p σ H1 H1' _ s1 (g.up e1) fun vy y M2 H2 H2' e2 s2 r2 p => by
    obtain ⟨a, ds, n, rfl, hM, rfl, hn, p4⟩ := p
    obtain ⟨h0, uu, hu, xs, rfl, hf⟩ := s2.own a _ hM
    unfold Rep at r1 r2
    subst r1 r2
    have hl := repL_len hf
    refine ⟨a, xs, _, n, rfl, rfl, hu, ?_, ?_⟩
    · unfold ixN
      rw [if_pos (by omega), if_pos (by omega)]
      simp
    · have hset : ∀ {ds : List Dt} {xs : List V} (n : Nat), RepL H2 ds xs → RepL H2 (ds.set n d) (xs.set n v) := by
        intro ds
        induction ds with
        | nil =>
          intro xs n h
          unfold RepL at h
          subst h
          exact repL_nil
        | cons y ys ih =>
          intro xs n h
          unfold RepL at h
          obtain ⟨z, rs, rfl, h1, h2⟩ := h
          cases n with
          | zero => exact repL_cons (rr.up (e1.trans e2)) h2
          | succ n => exact repL_cons h1 (ih n h2)
      exact q Γ _ σ H2 _ (e1.trans e2) (s2.wr (d := .lst (ds.set n d)) (u := .lst (xs.set n v)) hM ⟨_, rfl, hset n hf⟩) (g.up (e1.trans e2)) p4
theorem e_fcall {D : Addr} (h : Ev L Γ M ta fun x M1 => ∃ C fs gs, vw M1 x = .ins C fs ∧ Cls K C ∧ NoAttr K C m ∧ fs.lookup m = some (.ins D gs) ∧ EvA L Γ M1 tr fun ds M2 => ∃ a : S.α, S.pre a (.ins D gs :: ds) L M2 ∧ ∀ d M', S.post a M2 d M' → P d M') :
    Ev L Γ M (tFCall K m D S.sp E ta tr) P := fun σ H0 H Q s g q =>
  h σ H0 H _ s g fun v x M1 H1 H1' e s1 rr p => by
    obtain ⟨C, fs, gs, h1, hc, hn, h2, p⟩ := p
    obtain ⟨a, dx, ws, rfl, ha, hf⟩ := s1.ins rr h1
    obtain ⟨w, hw, rw'⟩ := repF_look hf h2
    have rw2 := rw'
    unfold Rep at rw2
    obtain ⟨y, dy, gs', rfl, _, _⟩ := rw2
    refine ⟨a, C, dx, ws, y, rfl, ha, hc, hn, hw, p σ H1 H1' _ s1 (g.up e) fun vs ds M' H0' H' e' s' rs p => ?_⟩
    obtain ⟨b, p1, p2⟩ := p
    obtain ⟨y', dy', gs'', e2, hy, _⟩ := s'.ins (rw'.up e') (M := M') rfl
    cases e2
    exact ⟨⟨dy', gs'', hy⟩, b, L, M', H0', .ins D gs :: ds, s', repL_cons (rw'.up e') rs, p1, fun v d M'' H0'' H'' e'' s'' rr pp => q v d M'' H0'' H'' ((e.trans e').trans e'') s'' rr (p2 d M'' pp)⟩
theorem e_sm (h : Ev L Γ M ta fun x M1 => x = .adr C ∧ EvA L Γ M1 tr fun ds M2 => ∃ a : S.α, S.pre a ds L M2 ∧ ∀ d M', S.post a M2 d M' → P d M') : Ev L Γ M (tSm C S.sp E ta tr) P := fun σ H0 H Q s g q =>
  h σ H0 H _ s g fun v x M1 H1 H1' e s1 rr p => by
    obtain ⟨rfl, p⟩ := p
    unfold Rep at rr
    refine ⟨rr, p σ H1 H1' _ s1 (g.up e) fun vs ds M' H0' H' e' s' rs p => ?_⟩
    obtain ⟨b, p1, p2⟩ := p
    exact ⟨b, L, M', H0', ds, s', rs, p1, fun v d M'' H0'' H'' e'' s'' rr pp => q v d M'' H0'' H'' ((e.trans e').trans e'') s'' rr (p2 d M'' pp)⟩

/-! ### locks -/
/-- where the dict stands that is walked -/
def Loc (L : Lk) (Γ : Gm) (M : Mm) (td : TE) (d : Dt) : Prop := ∀ σ H0 H, SV L M H0 H → SG Γ σ H0 → ∃ a u, Rep H0 d (.ref a) ∧ H0 a = some u ∧ ∀ od (Q : VK), Q (.ref a) (upd H a (.frz od u)) → td σ (upd H a (.frz od u)) Q
theorem rep_at {d : Dt} {H0 : Hp} {v : V} (h : Rep H0 d v) (hd : (∃ kvs, d = .dK kvs) ∨ ∃ kvs, d = .dT kvs) : ∃ a u, v = .ref a ∧ H0 a = some u ∧ isDict u ∧ RepO H0 d u := by
  rcases hd with ⟨kvs, rfl⟩ | ⟨kvs, rfl⟩
  · unfold Rep at h
    obtain ⟨a, ws, rfl, ha, hr⟩ := h
    exact ⟨a, _, rfl, ha, .inl ⟨ws, rfl⟩, ws, rfl, hr⟩
  · unfold Rep at h
    obtain ⟨a, ws, rfl, ha, hr⟩ := h
    exact ⟨a, _, rfl, ha, .inr ⟨ws, rfl⟩, ws, rfl, hr⟩
theorem loc_var {i : Nat} (h : Γ[i]? = some (some d)) (hd : (∃ kvs, d = .dK kvs) ∨ ∃ kvs, d = .dT kvs) : Loc L Γ M (tVar i) d := fun σ H0 H s g => by
  obtain ⟨v, h1, h2⟩ := g.2 i d h
  obtain ⟨a, u, rfl, ha, _, _⟩ := rep_at h2 hd
  exact ⟨a, u, h2, ha, fun od Q q => ⟨.ref a, h1, q⟩⟩
theorem loc_fld {i : Nat} {f : Str} {fs : List (Str × Dt)} {x : Dt} (h : Γ[i]? = some (some x)) (hx : x = .ins C fs) (hc : Cls K C) (hn : NoAttr K C f) (hf : fs.lookup f = some d) (hd : (∃ kvs, d = .dK kvs) ∨ ∃ kvs, d = .dT kvs) : Loc L Γ M (tFld K (tVar i) f) d := fun σ H0 H s g => by
  subst hx
  obtain ⟨v, h1, h2⟩ := g.2 i _ h
  have h2' := h2
  unfold Rep at h2'
  obtain ⟨b, dx, ws, rfl, hb, hw⟩ := h2'
  obtain ⟨w, hlw, hr⟩ := repF_look hw hf
  obtain ⟨a, u, rfl, ha, isd, _⟩ := rep_at hr hd
  have hbH : H b = some (.ins C dx ws) := by
    rcases s.per b _ hb with ⟨o, q, _⟩ | ⟨_, q⟩
    · obtain ⟨u', q1, q2⟩ := s.lkd b o q
      rw [hb] at q1; cases q1
      rcases q2.1 with ⟨_, q2⟩ | ⟨_, q2⟩ <;> cases q2
    · exact q
  have hne : b ≠ a := by
    rintro rfl
    rw [hb] at ha
    cases ha
    rcases isd with ⟨_, q2⟩ | ⟨_, q2⟩ <;> cases q2
  exact ⟨a, u, hr, ha, fun od Q q => ⟨.ref b, h1, b, C, dx, ws, _, rfl, by rw [upd_ne hne]; exact hbH, hc, hn, hlw, q⟩⟩
theorem SV.lock {a : Addr} {u : HO} {c : Bool} {od : Obj} {H0 H : Hp} (s : SV L M H0 H) (h0 : H0 a = some u) (hL : L a = none) (hk : Lkd c u) : H a = some u ∧ SV (lset L a (od, c)) M H0 (upd H a (.frz od u)) := by
  have hH : H a = some u := by
    rcases s.per a u h0 with ⟨o, q, _⟩ | ⟨_, q⟩
    · rw [hL] at q; cases q
    · exact q
  refine ⟨hH, ⟨fun b w e => ?_, fun b o e => ?_, fun b w e => ?_⟩⟩
  · by_cases hb : b = a
    · subst hb
      rw [h0] at e; cases e
      exact .inl ⟨(od, c), lset_same, upd_same⟩
    · rw [lset_ne hb, upd_ne hb]
      exact s.per b w e
  · by_cases hb : b = a
    · subst hb
      rw [lset_same] at e; cases e
      exact ⟨u, h0, hk⟩
    · rw [lset_ne hb] at e
      exact s.lkd b o e
  · obtain ⟨e0, w', e', r⟩ := s.own b w e
    have hb : b ≠ a := by
      rintro rfl
      rw [h0] at e0; cases e0
    exact ⟨e0, w', by rw [upd_ne hb]; exact e', r⟩
theorem SV.unlock {a : Addr} {u : HO} {c : Bool} {od : Obj} {H0 H : Hp} (s : SV (lset L a (od, c)) M H0 H) (h0 : H0 a = some u) (hL : L a = none) : H a = some (.frz od u) ∧ SV L M H0 (upd H a u) := by
  have hH : H a = some (.frz od u) := by
    rcases s.per a u h0 with ⟨o, q, q2⟩ | ⟨q, _⟩
    · rw [lset_same] at q; cases q
      exact q2
    · rw [lset_same] at q; cases q
  refine ⟨hH, ⟨fun b w e => ?_, fun b o e => ?_, fun b w e => ?_⟩⟩
  · by_cases hb : b = a
    · subst hb
      rw [h0] at e; cases e
      exact .inr ⟨hL, upd_same⟩
    · rw [upd_ne hb]
      have := s.per b w e
      rw [lset_ne hb] at this
      exact this
  · have hb : b ≠ a := by
      rintro rfl
      rw [hL] at e; cases e
    have := s.lkd b o (by rw [lset_ne hb]; exact e)
    exact this
  · obtain ⟨e0, w', e', r⟩ := s.own b w e
    have hb : b ≠ a := by
      rintro rfl
      rw [h0] at e0; cases e0
    exact ⟨e0, w', by rw [upd_ne hb]; exact e', r⟩
/-- a tuple that stands in the heap is taken as data -/
theorem SV.adopt {q : Addr} {xs : List V} {H0 H : Hp} (s : SV L M H0 H) (h : H q = some (.tup xs)) : ∃ H1, Same H0 H1 ∧ SV L M H1 H ∧ H1 q = some (.tup xs) := by
  cases e : H0 q with
  | some u =>
    refine ⟨H0, Same.refl _, s, ?_⟩
    rcases s.per q u e with ⟨o, _, q2⟩ | ⟨_, q2⟩
    · rw [h] at q2; cases q2
    · rw [h] at q2; cases q2
      exact e
  | none =>
    have sm := same_new (o := HO.tup xs) e
    refine ⟨upd H0 q (.tup xs), sm, ⟨fun b w z => ?_, fun b o z => ?_, fun b w z => ?_⟩, upd_same⟩
    · by_cases hb : b = q
      · subst hb
        rw [upd_same] at z; cases z
        exact .inr ⟨s.freshL e, h⟩
      · rw [upd_ne hb] at z
        exact s.per b w z
    · obtain ⟨u, z1, z2⟩ := s.lkd b o z
      exact ⟨u, sm _ _ z1, z2⟩
    · obtain ⟨e0, w', e', r⟩ := s.own b w z
      have hb : b ≠ q := by
        rintro rfl
        rw [h] at e'
        cases e'
        cases w with
        | lst _ => obtain ⟨_, z, _⟩ := r; cases z
        | ins _ _ => obtain ⟨_, _, z, _⟩ := r; cases z
        | dK _ => obtain ⟨_, z, _⟩ := r; cases z
        | dT _ => obtain ⟨_, z, _⟩ := r; cases z
        | _ => exact r
      exact ⟨by rw [upd_ne hb]; exact e0, w', e', r.up sm⟩
/-- the keys, as data -/
def keysD : Dt → List Dt
  | .dK kvs => kvs.map fun kv => .s kv.1
  | .dT kvs => kvs.map fun kv => .tup (dStrs kv.1)
  | _ => []
theorem repK_key {H : Hp} : ∀ {kvs : List (Str × Dt)} {ws : List (Key × V)} {i : Nat} {k : Key} {v : V}, RepK H kvs ws → ws[i]? = some (k, v) → ∃ x, kvs[i]?.map (·.1) = some x ∧ k = .inr x
  | [], ws, i, k, v, h, e => by
    unfold RepK at h
    subst h
    simp at e
  | (k', d) :: kvs, ws, i, k, v, h, e => by
    unfold RepK at h
    obtain ⟨x, r, rfl, h1, h2⟩ := h
    cases i with
    | zero =>
      simp at e
      exact ⟨k', by simp, e.1.symm⟩
    | succ i =>
      simp at e
      obtain ⟨z, z1, z2⟩ := repK_key h2 e
      exact ⟨z, by simpa using z1, z2⟩
theorem repT_key {H : Hp} : ∀ {kvs : List (List Str × Dt)} {ws : List (List Key × V)} {i : Nat} {k : List Key} {v : V}, RepT H kvs ws → ws[i]? = some (k, v) → ∃ x, kvs[i]?.map (·.1) = some x ∧ k = x.map .inr
  | [], ws, i, k, v, h, e => by
    unfold RepT at h
    subst h
    simp at e
  | (k', d) :: kvs, ws, i, k, v, h, e => by
    unfold RepT at h
    obtain ⟨x, r, rfl, h1, h2⟩ := h
    cases i with
    | zero =>
      simp at e
      exact ⟨k', by simp, e.1.symm⟩
    | succ i =>
      simp at e
      obtain ⟨z, z1, z2⟩ := repT_key h2 e
      exact ⟨z, by simpa using z1, z2⟩
theorem yl_keysK {a : Addr} {od : Obj} {c : Bool} {kvs : List (Str × Dt)} {ws : List (Key × V)} {H0 : Hp} (h0 : H0 a = some (.dK ws)) (hr : RepK H0 kvs ws) : Yl (lset L a (od, c)) (Itk a od ws) H0 (keysD (.dK kvs)) := fun H0' M H e s => by
  have hl := repK_len hr
  have hk : (keysD (.dK kvs)).length = kvs.length := by simp [keysD]
  have hH : H a = some (.frz od (.dK ws)) := by
    rcases s.per a _ (e _ _ h0) with ⟨o, q, q2⟩ | ⟨q, _⟩
    · rw [lset_same] at q; cases q
      exact q2
    · rw [lset_same] at q; cases q
  refine ⟨fun i hi => ⟨hH, by omega⟩, fun i hi => ⟨hH, by omega⟩, fun i d x H' hd y => ?_⟩
  obtain ⟨rfl, k, v, h1, rfl⟩ := y
  obtain ⟨z, z1, rfl⟩ := repK_key hr h1
  refine ⟨H0', Same.refl _, s, ?_⟩
  have : d = .s z := by
    unfold keysD at hd
    rw [List.getElem?_map] at hd
    cases q : kvs[i]? with
    | none => rw [q] at hd; cases hd
    | some kv =>
      rw [q] at hd z1
      cases hd
      cases z1
      rfl
  subst this
  unfold Rep
  rfl
theorem yl_keysT {a : Addr} {od : Obj} {c : Bool} {kvs : List (List Str × Dt)} {ws : List (List Key × V)} {H0 : Hp} (h0 : H0 a = some (.dT ws)) (hr : RepT H0 kvs ws) : Yl (lset L a (od, c)) (Itkt a od ws) H0 (keysD (.dT kvs)) := fun H0' M H e s => by
  have hl := repT_len hr
  have hk : (keysD (.dT kvs)).length = kvs.length := by simp [keysD]
  have hH : H a = some (.frz od (.dT ws)) := by
    rcases s.per a _ (e _ _ h0) with ⟨o, q, q2⟩ | ⟨q, _⟩
    · rw [lset_same] at q; cases q
      exact q2
    · rw [lset_same] at q; cases q
  refine ⟨fun i hi => ⟨hH, by omega⟩, fun i hi => ⟨hH, by omega⟩, fun i d x H' hd y => ?_⟩
  obtain ⟨rfl, k, v, b, h1, rfl, hb⟩ := y
  obtain ⟨z, z1, rfl⟩ := repT_key hr h1
  obtain ⟨H1, e1, s1, hb1⟩ := s.adopt hb
  refine ⟨H1, e1, s1, ?_⟩
  have : d = .tup (dStrs z) := by
    unfold keysD at hd
    rw [List.getElem?_map] at hd
    cases q : kvs[i]? with
    | none => rw [q] at hd; cases hd
    | some kv =>
      rw [q] at hd z1
      cases hd
      cases z1
      rfl
  subst this
  unfold Rep
  rw [kV_map] at hb1
  exact ⟨b, _, rfl, hb1, repL_of_strs z⟩
/-- walking a dict that is locked here: what a for, a comprehension takes it as -/
theorem lock_it {td : TE} {σ : L2.St} {H0 H : Hp} {c : Bool} (hd : (∃ kvs, d = .dK kvs) ∨ ∃ kvs, d = .dT kvs) (hl : Loc L Γ M td d) (hu : ∀ H0 H a, SV L M H0 H → Rep H0 d (.ref a) → L a = none) (hc : ∀ H0 u, RepO H0 d u → Lkd c u) (s : SV L M H0 H) (g : SG Γ σ H0) :
    ∃ a u, H0 a = some u ∧ H a = some u ∧ Mut (some u) ∧ L a = none ∧ ∀ od, SV (lset L a (od, c)) M H0 (upd H a (.frz od u)) ∧ ∀ R : It → Hp → Prop, (∀ J, Yl (lset L a (od, c)) J H0 (keysD d) → R J (upd H a (.frz od u))) → iKeys td σ (upd H a (.frz od u)) R := by
  obtain ⟨a, u, hr, h0, ht⟩ := hl σ H0 H s g
  obtain ⟨a', u', e, h0', isd, ro⟩ := rep_at hr hd
  cases e
  rw [h0] at h0'; cases h0'
  have hL := hu H0 H a s hr
  refine ⟨a, u, h0, (s.lock (od := default) h0 hL (hc H0 u ro)).1, ?_, hL, fun od => ⟨(s.lock h0 hL (hc H0 u ro)).2, fun R hR => ?_⟩⟩
  · rcases isd with ⟨_, rfl⟩ | ⟨_, rfl⟩ <;> exact True.intro
  · refine ht od _ ?_
    rcases hd with ⟨kvs, rfl⟩ | ⟨kvs, rfl⟩
    · obtain ⟨ws, rfl, hw⟩ := ro
      exact ⟨a, od, rfl, .inl ⟨ws, upd_same, hR _ (yl_keysK h0 hw)⟩⟩
    · obtain ⟨ws, rfl, hw⟩ := ro
      exact ⟨a, od, rfl, .inr ⟨ws, upd_same, hR _ (yl_keysT h0 hw)⟩⟩
end
end K85
set_option maxRecDepth 100000
set_option maxHeartbeats 1000000
/-! Locked walks. -/
namespace K85
open PySem L2
section
variable {L : Lk} {Γ Γ' : Gm} {M M' : Mm} {ta tb tc te tv td ty tx : TE} {t u : TT} {P : Dt → Mm → Prop} {r r' : R2} {K : PySem.W.Frag} {d : Dt} {tr : TA} {g : TG} {vs : List Nat} {wi : TI} {Es' : Es} {S : FS} {E : XK} {C : Addr} {m : Str}
/-- a for's turns, for its iterator -/
theorem for_body {J : It} {ds : List Dt} {H1 H1' : Hp} {σ : L2.St} {tbs : TS} {D : Ends} (gg : SG Γ σ H1) (s1 : SV L M H1 H1') (y : Yl L J H1 ds) (o : EsOk L H1 Es' D)
    (p : ∃ I : Nat → Gm → Mm → Prop, I 0 Γ M ∧ (∀ (i : Nat) (d : Dt) Γ' M', ds[i]? = some d → I i Γ' M' → Gv L Γ' M' g d fun Γ2 M2 => Run L Γ2 M2 tbs { Es' with nx := I (i + 1), ct := I (i + 1), bk := Es'.nx }) ∧ ∀ Γ' M', I ds.length Γ' M' → Es'.nx Γ' M') :
    ∃ W : Nat → Nat → L2.St → Hp → Prop, (∃ m, W 0 m σ H1') ∧ ∀ i m σ H, W i m σ H → (J.stop i H ∧ D.nx σ H) ∨ (J.go i H ∧ ∃ N : L2.St → Hp → Prop, (∀ σ' H', N σ' H' → ∃ m', m' < m ∧ W (i + 1) m' σ' H') ∧ ∀ x H', J.yld i H x H' → g x σ H' fun σ2 H2 => tbs { D with nx := N, ct := N, bk := D.nx } σ2 H2) := by
  obtain ⟨I, i0, st, dn⟩ := p
  refine ⟨fun i m σ' H' => m = ds.length - i ∧ i ≤ ds.length ∧ ∃ Γ' M' H0', Same H1 H0' ∧ SV L M' H0' H' ∧ SG Γ' σ' H0' ∧ I i Γ' M', ⟨ds.length, by simp, Nat.zero_le _, Γ, M, H1, Same.refl _, s1, gg, i0⟩, ?_⟩
  rintro i m σ' H' ⟨rfl, hi, Γ', M', H0', e', s', g', ii⟩
  obtain ⟨y1, y2, y3⟩ := y H0' M' H' e' s'
  by_cases hlt : i < ds.length
  · refine .inr ⟨y1 i hlt, fun σ2 H2 => ∃ Γ2 M2 H02, Same H1 H02 ∧ SV L M2 H02 H2 ∧ SG Γ2 σ2 H02 ∧ I (i + 1) Γ2 M2, fun σ2 H2 w => ⟨ds.length - (i + 1), by omega, rfl, hlt, w⟩, fun x H'' yy => ?_⟩
    have hd : ds[i]? = some ds[i] := List.getElem?_eq_getElem hlt
    obtain ⟨H3, e3, s3, r3⟩ := y3 i _ x H'' hd yy
    refine st i _ Γ' M' hd ii σ' H3 H'' x _ s3 (g'.up e3) r3 fun Γ2 M2 σ2 H4 H4' e4 s4 g4 rr => ?_
    refine rr σ2 H4 H4' _ s4 g4 ⟨fun Γ5 M5 σ5 H5 H5' e5 s5 g5 p5 => ⟨Γ5, M5, H5, ((e'.trans e3).trans e4).trans e5, s5, g5, p5⟩, fun v d M5 H5 H5' e5 s5 r5 p5 => o.rt v d M5 H5 H5' (((e'.trans e3).trans e4).trans e5) s5 r5 p5,
      fun Γ5 M5 σ5 H5 H5' e5 s5 g5 p5 => o.nx Γ5 M5 σ5 H5 H5' (((e'.trans e3).trans e4).trans e5) s5 g5 p5, fun Γ5 M5 σ5 H5 H5' e5 s5 g5 p5 => ⟨Γ5, M5, H5, ((e'.trans e3).trans e4).trans e5, s5, g5, p5⟩⟩
  · have hi' : i = ds.length := by omega
    subst hi'
    exact .inl ⟨y2 _ (Nat.le_refl _), o.nx Γ' M' σ' H0' H' e' s' g' (dn Γ' M' ii)⟩
/-- for k in d: the dict is locked through the walk -/
theorem r_lockFor {tbs : TS} (c : Bool) (hd : (∃ kvs, d = .dK kvs) ∨ ∃ kvs, d = .dT kvs) (hl : Loc L Γ M td d) (hu : ∀ H0 H a, SV L M H0 H → Rep H0 d (.ref a) → L a = none) (hc : ∀ H0 u, RepO H0 d u → Lkd c u)
    (p : ∀ L' a od, L' = lset L a (od, c) → L a = none → ∃ I : Nat → Gm → Mm → Prop, I 0 Γ M ∧ (∀ (i : Nat) (k : Dt) Γ' M', (keysD d)[i]? = some k → I i Γ' M' → Gv L' Γ' M' g k fun Γ2 M2 => Run L' Γ2 M2 tbs { Es' with nx := I (i + 1), ct := I (i + 1), bk := Es'.nx }) ∧ ∀ Γ' M', I (keysD d).length Γ' M' → Es'.nx Γ' M') :
    Run L Γ M (tLock (tFor (iKeys td) g tbs)) Es' := fun σ H0 H D s gg o => by
  obtain ⟨a, u, h0, hH, mu, hL, q⟩ := lock_it (c := c) hd hl hu hc s gg
  refine ⟨a, u, hH, mu, fun od => ?_⟩
  obtain ⟨s1, q⟩ := q od
  refine q _ fun J y => ?_
  refine for_body gg s1 y ⟨fun Γ' M' σ' H0' H' e s' g' pp => ?_, fun v dd M' H0' H' e s' rr pp => ?_, fun Γ' M' σ' H0' H' e s' g' pp => ?_, fun Γ' M' σ' H0' H' e s' g' pp => ?_⟩ (p _ a od rfl hL)
  · obtain ⟨z1, z2⟩ := s'.unlock (e _ _ h0) hL
    exact ⟨z1, o.nx Γ' M' σ' H0' _ e z2 g' pp⟩
  · obtain ⟨z1, z2⟩ := s'.unlock (e _ _ h0) hL
    exact ⟨z1, o.rt v dd M' H0' _ e z2 rr pp⟩
  · obtain ⟨z1, z2⟩ := s'.unlock (e _ _ h0) hL
    exact ⟨z1, o.bk Γ' M' σ' H0' _ e z2 g' pp⟩
  · obtain ⟨z1, z2⟩ := s'.unlock (e _ _ h0) hL
    exact ⟨z1, o.ct Γ' M' σ' H0' _ e z2 g' pp⟩
/-- [e for k in d if ..] -/
theorem e_lockLcO (c : Bool) (wk : Wo vs g) (hd : (∃ kvs, d = .dK kvs) ∨ ∃ kvs, d = .dT kvs) (hl : Loc L Γ M td d) (hu : ∀ H0 H a, SV L M H0 H → Rep H0 d (.ref a) → L a = none) (hc : ∀ H0 u, RepO H0 d u → Lkd c u)
    (p : ∀ L' a od, L' = lset L a (od, c) → L a = none → ∀ D, M D = none → ∃ I : Nat → Mm → Prop, I 0 (mset M D (.lst [])) ∧
      (∀ (i : Nat) (k : Dt) M', (keysD d)[i]? = some k → I i M' → Gv L' (wipeG Γ vs) M' g k fun Γ2 M2 => EvT L' Γ2 M2 t fun b M3 => if b = true then Ev L' Γ2 M3 te fun y M4 => ∃ acc, M4 D = some (.lst acc) ∧ acc.length < 100000 ∧ I (i + 1) (mset M4 D (.lst (acc ++ [y]))) else I (i + 1) M3) ∧
      ∀ M', I (keysD d).length M' → P (.adr D) M') : Ev L Γ M (tLockE (tLc (iKeys td) g t te vs)) P := fun σ H0 H Q s gg q => by
  obtain ⟨a, u, h0, hH, mu, hL, k⟩ := lock_it (c := c) hd hl hu hc s gg
  refine ⟨a, u, hH, mu, fun od => ?_⟩
  obtain ⟨s1, k⟩ := k od
  refine k _ fun J y D hD => ?_
  refine lc_body (Q := fun v H' => H' a = some (.frz od u) ∧ Q v (upd H' a u)) wk gg s1 y hD (p _ a od rfl hL D (s1.freshM hD)) fun v dd M' H0' H' e s' rr pp => ?_
  obtain ⟨z1, z2⟩ := s'.unlock (e _ _ h0) hL
  exact ⟨z1, q v dd M' H0' _ e z2 rr pp⟩
theorem e_lockLc (c : Bool) (wk : Wo vs g) (hd : (∃ kvs, d = .dK kvs) ∨ ∃ kvs, d = .dT kvs) (hl : Loc L Γ M td d) (hu : ∀ H0 H a, SV L M H0 H → Rep H0 d (.ref a) → L a = none) (hc : ∀ H0 u, RepO H0 d u → Lkd c u) (hz : (keysD d).length ≤ 50000) (yes : Dt → Bool) (val : Dt → Dt)
    (h : ∀ L' a od, L' = lset L a (od, c) → L a = none → ∀ (i : Nat) (k : Dt), (keysD d)[i]? = some k → LcTurn L' Γ M vs g t te yes val k) (k : P (.lst (lcD (keysD d) yes val)) M) : Ev L Γ M (tLockE (tLc (iKeys td) g t te vs)) P :=
  e_frz (e_lockLcO c wk hd hl hu hc fun L' a od e1 e2 D hD => lc_pure hD hz (h L' a od e1 e2) k)
/-- y = [e for k in d if ..] -/
theorem r_lockLc (c : Bool) {j : Nat} (wk : Wo vs g) (hd : (∃ kvs, d = .dK kvs) ∨ ∃ kvs, d = .dT kvs) (hl : Loc L Γ M td d) (hu : ∀ H0 H a, SV L M H0 H → Rep H0 d (.ref a) → L a = none) (hc : ∀ H0 u, RepO H0 d u → Lkd c u) (hz : (keysD d).length ≤ 50000) (yes : Dt → Bool) (val : Dt → Dt)
    (h : ∀ L' a od, L' = lset L a (od, c) → L a = none → ∀ (i : Nat) (k : Dt), (keysD d)[i]? = some k → LcTurn L' Γ M vs g t te yes val k) (k : Es'.nx (Γ.set j (some (.lst (lcD (keysD d) yes val)))) M) : Run L Γ M (tLock (tAsg (tLc (iKeys td) g t te vs) (gName j))) Es' := fun σ H0 H D s gg o => by
  have z := e_lockLc (P := fun x M' => x = .lst (lcD (keysD d) yes val) ∧ M' = M) c wk hd hl hu hc hz yes val h ⟨rfl, rfl⟩ σ H0 H (fun v H' => D.nx (σ.set j (some v)) H') s gg fun v x M' H0' H' e s' rr ⟨e1, e2⟩ => by
    subst e1 e2
    exact o.nx _ _ _ H0' H' e s' ((gg.up e).set j rr) k
  obtain ⟨a, u, hH, mu, k⟩ := z
  exact ⟨a, u, hH, mu, fun od => k od⟩

/-! ### a dict's comprehension -/
/-- the turns of {k: v for ..} (keys texts), for its iterator -/
theorem dc_body {J : It} {ds : List Dt} {H1 H1' : Hp} {σ : L2.St} {D : Addr} {Q : VK} {tk : TE} (wk : Wo vs g) (gg : SG Γ σ H1) (s1 : SV L M H1 H1') (y : Yl L J H1 ds) (hD : H1' D = none)
    (p : ∃ I : Nat → Mm → Prop, I 0 (mset M D (.dK [])) ∧
      (∀ (i : Nat) (d : Dt) M', ds[i]? = some d → I i M' → Gv L (wipeG Γ vs) M' g d fun Γ2 M2 => EvT L Γ2 M2 t fun b M3 => if b = true then Ev L Γ2 M3 tk fun k M4 => Ev L Γ2 M4 te fun z M5 => ∃ kvs x, k = .s x ∧ M5 D = some (.dK kvs) ∧ kvs.length < 100000 ∧ I (i + 1) (mset M5 D (.dK (putA kvs x z))) else I (i + 1) M3) ∧
      ∀ M', I ds.length M' → P (.adr D) M')
    (q : ∀ v d M' H0' H', Same H1 H0' → SV L M' H0' H' → Rep H0' d v → P d M' → Q v H') :
    ∃ W : Nat → Nat → Hp → Prop, (∃ m, W 0 m (upd H1' D (.dK []))) ∧ ∀ i m H, W i m H →
      (J.stop i H ∧ Q (.ref D) H) ∨ (J.go i H ∧ ∃ Nx : Hp → Prop, (∀ H', Nx H' → ∃ m', m' < m ∧ W (i + 1) m' H') ∧ ∀ x H', J.yld i H x H' → g x (wipe σ vs) H' fun σ2 H2 => wipe σ2 vs = wipe σ vs ∧ t σ2 H2 fun b H3 =>
        if b = true then tk σ2 H3 fun ky H4 => te σ2 H4 fun y H5 => ∃ kvs k, ky = kV k ∧ H5 D = some (.dK kvs) ∧ kvs.length < sizeLine ∧ Nx (upd H5 D (.dK (putK kvs k y))) else Nx H3) := by
  obtain ⟨I, i0, st, dn⟩ := p
  refine ⟨fun i m H' => m = ds.length - i ∧ i ≤ ds.length ∧ ∃ M' H0', Same H1 H0' ∧ SV L M' H0' H' ∧ I i M', ⟨ds.length, by simp, Nat.zero_le _, _, H1, Same.refl _, s1.newM (d := .dK []) (u := .dK []) hD ⟨[], rfl, by unfold RepK; rfl⟩, i0⟩, ?_⟩
  rintro i m H' ⟨rfl, hi, M', H0', e', s', ii⟩
  obtain ⟨y1, y2, y3⟩ := y H0' M' H' e' s'
  by_cases hlt : i < ds.length
  · refine .inr ⟨y1 i hlt, fun H2 => ∃ M2 H02, Same H1 H02 ∧ SV L M2 H02 H2 ∧ I (i + 1) M2, fun H2 w => ⟨ds.length - (i + 1), by omega, rfl, hlt, w⟩, fun x H'' yy => ?_⟩
    have hd : ds[i]? = some ds[i] := List.getElem?_eq_getElem hlt
    obtain ⟨H3, e3, s3, r3⟩ := y3 i _ x H'' hd yy
    have tg := wk x (wipe σ vs) H'' _ (st i _ M' hd ii (wipe σ vs) H3 H'' x (fun σ2 H2 => t σ2 H2 fun b H3 => if b = true then tk σ2 H3 fun ky H4 => te σ2 H4 fun y H5 => ∃ kvs k, ky = kV k ∧ H5 D = some (.dK kvs) ∧ kvs.length < sizeLine ∧ (fun H2 => ∃ M2 H02, Same H1 H02 ∧ SV L M2 H02 H2 ∧ I (i + 1) M2) (upd H5 D (.dK (putK kvs k y))) else (fun H2 => ∃ M2 H02, Same H1 H02 ∧ SV L M2 H02 H2 ∧ I (i + 1) M2) H3) s3 ((sg_wipe (gg.up (e'.trans e3)) vs)) r3 ?_)
    · rw [wipe_wipe vs vs (fun _ h => h)] at tg
      exact tg
    · intro Γ2 M2 σ2 H4 H4' e4 s4 g4 rr
      refine rr σ2 H4 H4' _ s4 g4 fun b M5 H5 H5' e5 s5 p5 => ?_
      cases b with
      | false => exact ⟨M5, H5, ((e'.trans e3).trans e4).trans e5, s5, p5⟩
      | true =>
        refine p5 σ2 H5 H5' _ s5 (g4.up e5) fun kv kd M6 H6 H6' e6 s6 r6 p6 => p6 σ2 H6 H6' _ s6 (g4.up (e5.trans e6)) fun yv yd M7 H7 H7' e7 s7 r7 p7 => ?_
        obtain ⟨kvs, x, rfl, hM, hl, p8⟩ := p7
        obtain ⟨h0, uu, hu, ws, rfl, hf⟩ := s7.own D _ hM
        unfold Rep at r6
        subst r6
        refine ⟨ws, .inr x, rfl, hu, Nat.lt_of_lt_of_le (by rw [repK_len hf]; exact hl) (by decide), _, H7, ((((e'.trans e3).trans e4).trans e5).trans e6).trans e7, s7.wr (d := .dK (putA kvs x yd)) (u := .dK (putK ws (.inr x) yv)) hM ⟨_, rfl, repK_put r7 hf⟩, p8⟩
  · have hi' : i = ds.length := by omega
    subst hi'
    exact .inl ⟨y2 _ (Nat.le_refl _), q _ (.adr D) M' H0' H' e' s' (by unfold Rep; rfl) (dn M' ii)⟩
theorem e_dcO {tk : TE} (wk : Wo vs g) (h : Iv L Γ M wi fun ds M1 => ∀ D, M1 D = none → ∃ I : Nat → Mm → Prop, I 0 (mset M1 D (.dK [])) ∧
      (∀ (i : Nat) (d : Dt) M', ds[i]? = some d → I i M' → Gv L (wipeG Γ vs) M' g d fun Γ2 M2 => EvT L Γ2 M2 t fun b M3 => if b = true then Ev L Γ2 M3 tk fun k M4 => Ev L Γ2 M4 te fun z M5 => ∃ kvs x, k = .s x ∧ M5 D = some (.dK kvs) ∧ kvs.length < 100000 ∧ I (i + 1) (mset M5 D (.dK (putA kvs x z))) else I (i + 1) M3) ∧
      ∀ M', I ds.length M' → P (.adr D) M') : Ev L Γ M (tDc wi g t tk te vs) P := fun σ H0 H Q s gg q =>
  h σ H0 H _ s gg fun J ds M1 H1 H1' e s1 y p D hD => dc_body wk (gg.up e) s1 y hD (p D (s1.freshM hD)) fun v d M' H0' H' e' => q v d M' H0' H' (e.trans e')
/-- {k: v for k in d} -/
theorem e_lockDcO {tk : TE} (c : Bool) (wk : Wo vs g) (hd : (∃ kvs, d = .dK kvs) ∨ ∃ kvs, d = .dT kvs) (hl : Loc L Γ M td d) (hu : ∀ H0 H a, SV L M H0 H → Rep H0 d (.ref a) → L a = none) (hc : ∀ H0 u, RepO H0 d u → Lkd c u)
    (p : ∀ L' a od, L' = lset L a (od, c) → L a = none → ∀ D, M D = none → ∃ I : Nat → Mm → Prop, I 0 (mset M D (.dK [])) ∧
      (∀ (i : Nat) (d' : Dt) M', (keysD d)[i]? = some d' → I i M' → Gv L' (wipeG Γ vs) M' g d' fun Γ2 M2 => EvT L' Γ2 M2 t fun b M3 => if b = true then Ev L' Γ2 M3 tk fun k M4 => Ev L' Γ2 M4 te fun z M5 => ∃ kvs x, k = .s x ∧ M5 D = some (.dK kvs) ∧ kvs.length < 100000 ∧ I (i + 1) (mset M5 D (.dK (putA kvs x z))) else I (i + 1) M3) ∧
      ∀ M', I (keysD d).length M' → P (.adr D) M') : Ev L Γ M (tLockE (tDc (iKeys td) g t tk te vs)) P := fun σ H0 H Q s gg q => by
  obtain ⟨a, u, h0, hH, mu, hL, k⟩ := lock_it (c := c) hd hl hu hc s gg
  refine ⟨a, u, hH, mu, fun od => ?_⟩
  obtain ⟨s1, k⟩ := k od
  refine k _ fun J y D hD => ?_
  refine dc_body (Q := fun v H' => H' a = some (.frz od u) ∧ Q v (upd H' a u)) wk gg s1 y hD (p _ a od rfl hL D (s1.freshM hD)) fun v dd M' H0' H' e s' rr pp => ?_
  obtain ⟨z1, z2⟩ := s'.unlock (e _ _ h0) hL
  exact ⟨z1, q v dd M' H0' _ e z2 rr pp⟩
end
end K85
set_option maxRecDepth 100000
set_option maxHeartbeats 1000000
/-! Comprehensions without effects over a mapped list. -/
namespace K85
open PySem L2
section
variable {L : Lk} {Γ Γ' : Gm} {M M' : Mm} {ta tb tc te tv td ty tx : TE} {t u : TT} {P : Dt → Mm → Prop} {K : PySem.W.Frag} {d : Dt} {tr : TA} {g : TG} {vs : List Nat} {wi : TI} {Es' : Es} {α : Type}
def LcT (L : Lk) (Γ : Gm) (M1 : Mm) (vs : List Nat) (g : TG) (t : TT) (te : TE) (b : Bool) (v d : Dt) : Prop :=
  ∀ M', Le M1 M' → Gv L (wipeG Γ vs) M' g d fun Γ2 M2 => M2 = M' ∧ EvT L Γ2 M' t fun b' M3 => b' = b ∧ M3 = M' ∧ (b = true → Ev L Γ2 M' te fun y M4 => y = v ∧ M4 = M')
theorem lc_pureM {src : List α} {f : α → Dt} {D : Addr} {yes : α → Bool} {val : α → Dt} (hD : M D = none) (hz : src.length ≤ 50000) (h : ∀ a ∈ src, LcT L Γ M vs g t te (yes a) (val a) (f a)) (k : P (.lst ((src.filter yes).map val)) M) :
    ∃ I : Nat → Mm → Prop, I 0 (mset M D (.lst [])) ∧
      (∀ i d M', (src.map f)[i]? = some d → I i M' → Gv L (wipeG Γ vs) M' g d fun Γ2 M2 => EvT L Γ2 M2 t fun b M3 => if b = true then Ev L Γ2 M3 te fun y M4 => ∃ acc, M4 D = some (.lst acc) ∧ acc.length < 100000 ∧ I (i + 1) (mset M4 D (.lst (acc ++ [y]))) else I (i + 1) M3) ∧
      ∀ M', I (src.map f).length M' → ∃ a d, Dt.adr D = .adr a ∧ M' a = some d ∧ P d (mdel M' a) := by
  refine ⟨fun i M' => M' = mset M D (.lst (((src.take i).filter yes).map val)), rfl, fun i d M' hd e => ?_, fun M' e => ?_⟩
  · subst e
    rw [List.getElem?_map] at hd
    cases q : src[i]? with
    | none => rw [q] at hd; cases hd
    | some a =>
      rw [q] at hd
      cases hd
      have hl := (List.getElem?_eq_some_iff.mp q).1
      have ha := (List.getElem?_eq_some_iff.mp q).2
      have tk : ((src.take (i + 1)).filter yes).map val = if yes a = true then ((src.take i).filter yes).map val ++ [val a] else ((src.take i).filter yes).map val := by
        rw [List.take_succ_eq_append_getElem hl, ha, List.filter_append, List.map_append]
        by_cases y : yes a = true
        · rw [if_pos y, List.filter_cons, if_pos y]
          rfl
        · rw [if_neg y, List.filter_cons, if_neg y]
          exact List.append_nil _
      refine gv_mono (h a (List.mem_of_getElem? q) _ (Le.new hD)) fun Γ2 M2 ⟨e2, ht⟩ => ?_
      subst e2
      refine ht.mono fun b M3 ⟨eb, e3, he⟩ => ?_
      subst eb e3
      cases y : yes a with
      | false =>
        rw [if_neg (by decide)]
        show mset M D _ = mset M D (Dt.lst (((src.take (i + 1)).filter yes).map val))
        rw [tk, y, if_neg (by decide)]
      | true =>
        rw [if_pos rfl]
        refine (he y).mono fun yv M4 ⟨ey, e4⟩ => ?_
        subst ey e4
        refine ⟨_, mset_same, ?_, ?_⟩
        · rw [List.length_map]
          have h1 := List.length_filter_le yes (src.take i)
          rw [List.length_take] at h1
          omega
        · rw [mset_mset]
          show mset M D _ = mset M D (Dt.lst (((src.take (i + 1)).filter yes).map val))
          rw [tk, y, if_pos rfl]
  · subst e
    rw [List.length_map, List.take_length]
    exact ⟨D, _, rfl, mset_same, by rw [mdel_mset hD]; exact k⟩
theorem e_lcM (wk : Wo vs g) (h : Iv L Γ M wi fun ds M1 => ∃ (src : List α) (f : α → Dt) (yes : α → Bool) (val : α → Dt), ds = src.map f ∧ src.length ≤ 50000 ∧ (∀ a ∈ src, LcT L Γ M1 vs g t te (yes a) (val a) (f a)) ∧ P (.lst ((src.filter yes).map val)) M1) : Ev L Γ M (tLc wi g t te vs) P :=
  e_frz (e_lc wk fun σ H0 H R s gg q => h σ H0 H R s gg fun J ds M1 H1 H1' e s1 y ⟨src, f, yes, val, ed, hz, ht, k⟩ => q J ds M1 H1 H1' e s1 y fun D hD => by
    subst ed
    exact lc_pureM hD hz ht k)
/-- over a locked dict -/
theorem e_lockM {src : List α} {f : α → Dt} {yes : α → Bool} {val : α → Dt} (c : Bool) (wk : Wo vs g) (hd : (∃ kvs, d = .dK kvs) ∨ ∃ kvs, d = .dT kvs) (hl : Loc L Γ M td d) (hu : ∀ H0 H a, SV L M H0 H → Rep H0 d (.ref a) → L a = none) (hc : ∀ H0 u, RepO H0 d u → Lkd c u)
    (hs : keysD d = src.map f) (hz : src.length ≤ 50000) (h : ∀ L' a od, L' = lset L a (od, c) → L a = none → ∀ x ∈ src, LcT L' Γ M vs g t te (yes x) (val x) (f x)) (k : P (.lst ((src.filter yes).map val)) M) : Ev L Γ M (tLockE (tLc (iKeys td) g t te vs)) P :=
  e_frz (e_lockLcO c wk hd hl hu hc fun L' a od e1 e2 D hD => by
    rw [hs]
    exact lc_pureM hD hz (h L' a od e1 e2) k)
theorem r_lockM {src : List α} {f : α → Dt} {yes : α → Bool} {val : α → Dt} (c : Bool) {j : Nat} (wk : Wo vs g) (hd : (∃ kvs, d = .dK kvs) ∨ ∃ kvs, d = .dT kvs) (hl : Loc L Γ M td d) (hu : ∀ H0 H a, SV L M H0 H → Rep H0 d (.ref a) → L a = none) (hc : ∀ H0 u, RepO H0 d u → Lkd c u)
    (hs : keysD d = src.map f) (hz : src.length ≤ 50000) (h : ∀ L' a od, L' = lset L a (od, c) → L a = none → ∀ x ∈ src, LcT L' Γ M vs g t te (yes x) (val x) (f x)) (k : Es'.nx (Γ.set j (some (.lst ((src.filter yes).map val)))) M) : Run L Γ M (tLock (tAsg (tLc (iKeys td) g t te vs) (gName j))) Es' := fun σ H0 H D s gg o => by
  have z := e_lockM (P := fun x M' => x = .lst ((src.filter yes).map val) ∧ M' = M) c wk hd hl hu hc hs hz h ⟨rfl, rfl⟩ σ H0 H (fun v H' => D.nx (σ.set j (some v)) H') s gg fun v x M' H0' H' e s' rr ⟨e1, e2⟩ => by
    subst e1 e2
    exact o.nx _ _ _ H0' H' e s' ((gg.up e).set j rr) k
  obtain ⟨a, u, hH, mu, k⟩ := z
  exact ⟨a, u, hH, mu, fun od => k od⟩
theorem filter_tt {l : List α} : l.filter (fun _ => true) = l := List.filter_eq_self.mpr fun _ _ => rfl
theorem unl0 {d : Dt} (hL : ∀ a, L a = none) : ∀ H0 H a, SV L M H0 H → Rep H0 d (.ref a) → L a = none := fun _ _ a _ _ => hL a
theorem lkd_f {d : Dt} (hd : (∃ kvs, d = .dK kvs) ∨ ∃ kvs, d = .dT kvs) : ∀ H0 u, RepO H0 d u → Lkd false u := fun H0 u r => by
  refine ⟨?_, fun z => nomatch z⟩
  rcases hd with ⟨kvs, rfl⟩ | ⟨kvs, rfl⟩
  · obtain ⟨ws, rfl, _⟩ := r
    exact .inl ⟨ws, rfl⟩
  · obtain ⟨ws, rfl, _⟩ := r
    exact .inr ⟨ws, rfl⟩
end
end K85
set_option maxRecDepth 100000
set_option maxHeartbeats 1000000
/-! The text by places, defs and methods as they stand behind the top, the data of the program. -/
namespace K85
open PySem L2
open C8 (Cal Met Mak pe_c pe_mk pe_mt pe_mt0 pe_gc)
def top (i : Nat) : Stmt := PySem.Challenge.pw_noneorsome_k85_whole_both_and_either.main.body.getD i (.Pass ⟨0, 0, 0, 0⟩)
/-- a def of the top -/
structure Df (K : PySem.W.Frag) (mg : Str → Option Value) (x : Str) (st : Stmt) : Prop where
  ex : ∃ f fd, FunD K x x (defArgs st) (defBody st) (defScope st) [] [] f fd ∧ mg x = some (.ref f)
/-- a method of a class (not its __init__) -/
structure Md (K : PySem.W.Frag) (C : Addr) (m qual : Str) (st : Stmt) : Prop where
  ex : ∃ f fd, FunD K m qual (defArgs st) (defBody st) (defScope st) [] [] f fd ∧ Meth K C m f ∧ PySem.W.fnIn K f = true
/-- a class's __init__, with its defaults -/
structure Mi (K : PySem.W.Frag) (mg : Str → Option Value) (x : Str) (C : Addr) (qual : Str) (st : Stmt) (dvs : List V) : Prop where
  ex : ∃ f fd, FunD K "__init__" qual (defArgs st) (defBody st) (defScope st) dvs [] f fd ∧ Mk K C f ∧ mg x = some (.ref C)
/-- a static method -/
structure Ms (K : PySem.W.Frag) (C : Addr) (m qual : Str) (st : Stmt) : Prop where
  ex : ∃ p f fd, FunD K m qual (defArgs st) (defBody st) (defScope st) [] [] f fd ∧ SMet K C m p f
abbrev Bd1 (ps : List Str) (x qual : Str) (st : Stmt) : Prop := ∀ (kV doc pm : Value) (an : Option Addr) (cdv ct : Value) (us : List Value), us.length = ps.length → bindArgs (PySem.W.fnOf x qual (defArgs st) (defBody st) (defScope st) .none kV doc pm an cdv ct) ⟨us, []⟩ = pure (ps.zip us)
section
variable {P : Program} {w : World} {K : PySem.W.Frag} {mg : Str → Option Value} {base : Heap}
structure Smt (P : Program) (w : World) (K : PySem.W.Frag) (mg : Str → Option Value) (base : Heap) (k : Nat) (C : Addr) (m : Str) (sp : Sp) : Prop where
  ex : ∃ p f fd ps, SMet K C m p f ∧ FnOk P w K mg base CX0 k f fd ps sp ∧ Binds K fd ps []
/-- a method that Python calls by itself, or a field's call -/
structure Dun (P : Program) (w : World) (K : PySem.W.Frag) (mg : Str → Option Value) (base : Heap) (k : Nat) (C : Addr) (m : Str) (sp : Sp) : Prop where
  ex : ∃ f fd ps, Meth K C m f ∧ PySem.W.fnIn K f = true ∧ FnOk P w K mg base CX0 k f fd ps sp ∧ Binds K fd ps []
abbrev BodyOk (P : Program) (w : World) (K : PySem.W.Frag) (mg : Str → Option Value) (base : Heap) (k : Nat) (qual : Str) (st : Stmt) (N : List Str) (S : FS) : Prop :=
  ∀ (f : Addr) (cdv : Value) (A : Around) (outer : List Env) (s : Shared) (H : Hp) (E : XK), Room k (A.deeper (PyProof.Rows.envOfC qual (defScope st) s.heap.objs.size f cdv)) →
      ∃ t, PSs (cxOf CX0 P w K mg base N qual (defScope st) f cdv A outer s H E).nox (defBody st) t ∧ ∀ (a : S.α) ds L M, S.pre a ds L M → Run L (startG N ds) M t { nx := fun _ M' => S.post a M .non M', rt := fun d M' => S.post a M d M' }
theorem cal_sym {x : Str} {st : Stmt} {N ps : List Str} {k : Nat} {S : FS} (D : Df K mg x st) (hS : FnScope N ps (defScope st)) (hb : Bd1 ps x x st) (len : ∀ a ds L M, S.pre a ds L M → ds.length = ps.length) (body : BodyOk P w K mg base k x st N S) : Cal P w K mg base (k + 1) x S.sp [] := by
  obtain ⟨f, fd, F, hm⟩ := D.ex
  exact ⟨f, fd, ps, [], fn_sym F hS len (body f), hm, F.kp, F.bindsN hb, .nil⟩
theorem met_sym {C : Addr} {m qual : Str} {st : Stmt} {N ps : List Str} {k : Nat} {S : FS} (hc : Cls K C) (D : Md K C m qual st) (hS : FnScope N ps (defScope st)) (hb : Bd1 ps m qual st) (len : ∀ a ds L M, S.pre a ds L M → ds.length = ps.length) (body : BodyOk P w K mg base k qual st N S) : Met P w K mg base (k + 1) C m S.sp [] := by
  obtain ⟨f, fd, F, hm, _⟩ := D.ex
  exact ⟨f, fd, ps, [], hc, hm, fn_sym F hS len (body f), F.bindsN hb, .nil⟩
theorem dun_sym {C : Addr} {m qual : Str} {st : Stmt} {N ps : List Str} {k : Nat} {S : FS} (D : Md K C m qual st) (hS : FnScope N ps (defScope st)) (hb : Bd1 ps m qual st) (len : ∀ a ds L M, S.pre a ds L M → ds.length = ps.length) (body : BodyOk P w K mg base k qual st N S) : Dun P w K mg base (k + 1) C m S.sp := by
  obtain ⟨f, fd, F, hm, hf⟩ := D.ex
  exact ⟨f, fd, ps, hm, hf, fn_sym F hS len (body f), F.bindsN hb⟩
theorem mak_sym {x : Str} {C : Addr} {qual : Str} {st : Stmt} {N ps : List Str} {k : Nat} {S : FS} (D : Mi K mg x C qual st []) (hS : FnScope N ps (defScope st)) (hb : Bd1 ps "__init__" qual st) (len : ∀ a ds L M, S.pre a ds L M → ds.length = ps.length) (body : BodyOk P w K mg base k qual st N S) : Mak P w K mg base (k + 1) x C S.sp [] := by
  obtain ⟨f, fd, F, hm, hg⟩ := D.ex
  exact ⟨f, fd, ps, [], hm, fn_sym F hS len (body f), hg, F.bindsN hb, .nil⟩
theorem smt_sym {C : Addr} {m qual : Str} {st : Stmt} {N ps : List Str} {k : Nat} {S : FS} (D : Ms K C m qual st) (hS : FnScope N ps (defScope st)) (hb : Bd1 ps m qual st) (len : ∀ a ds L M, S.pre a ds L M → ds.length = ps.length) (body : BodyOk P w K mg base k qual st N S) : Smt P w K mg base (k + 1) C m S.sp := by
  obtain ⟨p, f, fd, F, hm⟩ := D.ex
  exact ⟨p, f, fd, ps, hm, fn_sym F hS len (body f), F.bindsN hb⟩
end
section
variable {X : Cx} {k j : Nat} {C : Addr} {m : Str} {sp : Sp} {pos apos : Pos} {o e a b : Expr} {es : List Expr} {ta tb : TE} {t : TA} {pl : Sem Bool}
theorem pe_st (c : Smt X.prog X.w X.K X.mg X.base k C m sp) (hr : Room j X.A) (hk : k ≤ j) (he : PE X o ta) (ha : PA X (e :: es) t)
    (hst : starEach (e :: es) X.env = (false, eval e X.env) :: starEach es X.env := by rfl) (hpl : (backTo pos (starEach es X.env)).any (·.1) = false := by rfl)
    (ht : eval (.Call (.Attribute o m apos) (e :: es) [] pos) X.env = (do
      let ov ← eval o X.env
      standAt apos.atName
      let (f, first) ← holding [ov] (getMethod ov m pl)
      callWith pos f first (backTo pos (starEach (e :: es) X.env)) (backToKw pos (keywordEach [] X.env))) := by rfl) :
    PE X (.Call (.Attribute o m apos) (e :: es) [] pos) (tSm C sp E0 ta t) := by
  obtain ⟨p, f, fd, ps, S, F, hb⟩ := c.ex
  exact pe_sm (pl := pl) he S F (hr.mono hk) hb ha hst hpl ht
theorem pe_st0 (c : Smt X.prog X.w X.K X.mg X.base k C m sp) (hr : Room j X.A) (hk : k ≤ j) (he : PE X o ta)
    (ht : eval (.Call (.Attribute o m apos) [] [] pos) X.env = (do
      let ov ← eval o X.env
      standAt apos.atName
      let (f, first) ← holding [ov] (getMethod ov m pl)
      callWith pos f first (backTo pos (starEach [] X.env)) (backToKw pos (keywordEach [] X.env))) := by rfl) :
    PE X (.Call (.Attribute o m apos) [] [] pos) (tSm C sp E0 ta tNil) := by
  obtain ⟨p, f, fd, ps, S, F, hb⟩ := c.ex
  exact pe_sm0 (pl := pl) he S F (hr.mono hk) hb ht
theorem pe_fc (c : Dun X.prog X.w X.K X.mg X.base k C "__call__" sp) (hr : Room j X.A) (hk : k ≤ j) (he : PE X o ta) (ha : PA X (e :: es) t)
    (hst : starEach (e :: es) X.env = (false, eval e X.env) :: starEach es X.env := by rfl) (hpl : (backTo pos (starEach es X.env)).any (·.1) = false := by rfl)
    (ht : eval (.Call (.Attribute o m apos) (e :: es) [] pos) X.env = (do
      let ov ← eval o X.env
      standAt apos.atName
      let (f, first) ← holding [ov] (getMethod ov m pl)
      callWith pos f first (backTo pos (starEach (e :: es) X.env)) (backToKw pos (keywordEach [] X.env))) := by rfl) :
    PE X (.Call (.Attribute o m apos) (e :: es) [] pos) (tFCall X.K m C sp E0 ta t) := by
  obtain ⟨f, fd, ps, hm, hf, F, hb⟩ := c.ex
  exact pe_fcall (pl := pl) he F (hr.mono hk) hb ⟨hm.at_, hm.fn, hf⟩ ha hst hpl ht
theorem pe_ixO (ha : PE X a ta) (hb' : PE X b tb) (c : Dun X.prog X.w X.K X.mg X.base k C "__getitem__" sp) (hr : Room j X.A) (hk : k + 1 ≤ j)
    (hsl : ∀ o i, subscripted b true o i = PySem.runValue (.builtin "lifetime.subscript" ⟨[o, i], []⟩) := by intro _ _; rfl) :
    PE X (.Subscript a b pos) (tOp (fun x y H Q => InsAt H C x ∧ sp [x, y] H Q E0) ta tb) := by
  obtain ⟨f, fd, ps, hm, hf, F, hb⟩ := c.ex
  exact pe_ixOwn ha hb' F (hr.mono hk) hb hm.at_ hf hm.fn hsl
theorem cr_lenO (c : Dun X.prog X.w X.K X.mg X.base k C "__len__" sp) (hr : Room j X.A) (hk : k + 1 ≤ j) : CallR X (.builtin "len") (rLenOwn C sp E0) := by
  obtain ⟨f, fd, ps, hm, hf, F, hb⟩ := c.ex
  exact len_own F (hr.mono hk) hb hm.at_ hm.fn
theorem set_O (c : Dun X.prog X.w X.K X.mg X.base k C "__setitem__" sp) (hr : Room j X.A) (hk : k ≤ j) (hq : PySem.W.noSeq X.K C = true) : PSet X (fun o i v H Q => InsAt H C o ∧ sp [o, i, v] H (fun _ H' => Q H') E0) := by
  obtain ⟨f, fd, ps, hm, hf, F, hb⟩ := c.ex
  exact set_own F (hr.mono hk) hb hq hm.at_ hm.fn
theorem op_orO (c : Dun X.prog X.w X.K X.mg X.base k C "__or__" sp) (hr : Room j X.A) (hk : k ≤ j) (hq : PySem.W.selfFirst X.K C = true) : OpR X (binaryOp .BitOr) (rOwn2 C sp E0) := by
  obtain ⟨f, fd, ps, hm, hf, F, hb⟩ := c.ex
  exact op_own2 F (hr.mono hk) hb hq (show PySem.W.findIn X.K (.ref C) (PySem.dunder Operator.BitOr.info.2) = _ from (show (PySem.dunder Operator.BitOr.info.2 : Str) = "__or__" by decide +kernel) ▸ hm.at_) hm.fn
theorem op_andO (c : Dun X.prog X.w X.K X.mg X.base k C "__and__" sp) (hr : Room j X.A) (hk : k ≤ j) (hq : PySem.W.selfFirst X.K C = true) : OpR X (binaryOp .BitAnd) (rOwn2 C sp E0) := by
  obtain ⟨f, fd, ps, hm, hf, F, hb⟩ := c.ex
  exact op_own2 F (hr.mono hk) hb hq (show PySem.W.findIn X.K (.ref C) (PySem.dunder Operator.BitAnd.info.2) = _ from (show (PySem.dunder Operator.BitAnd.info.2 : Str) = "__and__" by decide +kernel) ▸ hm.at_) hm.fn
theorem un_O (c : Dun X.prog X.w X.K X.mg X.base k C "__invert__" sp) (hr : Room j X.A) (hk : k ≤ j) : UnR X (unaryOp .Invert) (fun x H Q => InsAt H C x ∧ sp [x] H Q E0) := by
  obtain ⟨f, fd, ps, hm, hf, F, hb⟩ := c.ex
  exact un_own F (hr.mono hk) hb hm.at_ hm.fn
end

theorem iT {b : Bool} {A B : Prop} (h : b = true) (k : A) : if b = true then A else B := by rw [if_pos h]; exact k
theorem iF {b : Bool} {A B : Prop} (h : b = false) (k : B) : if b = true then A else B := by rw [if_neg (by rw [h]; exact Bool.false_ne_true)]; exact k
theorem iB {b : Bool} {A B : Prop} (h : b = true → A) (k : b = false → B) : if b = true then A else B := by
  cases b with
  | true => exact iT rfl (h rfl)
  | false => exact iF rfl (k rfl)
theorem pe_gr {X : Cx} {x : Str} {a : Addr} {pos : Pos} (hg : Gl X x) (hm : X.mg x = some (.ref a)) (hd : (x == ("__debug__" : Str)) = false := by decide) : PE X (.Name x pos) (tC (.ref a)) := pe_glob (v := .ref a) hg hm rfl hd
/-! ### the program's data -/
inductive Tr where
  | is (x : Str) | nt (t : Tr) | an (a b : Tr) | or (a b : Tr) | alw | nev
def Tr.d : Tr → Dt
  | .is x => .tup [.s "is", .s x]
  | .nt t => .tup [.s "not", t.d]
  | .an a b => .tup [.s "and", a.d, b.d]
  | .or a b => .tup [.s "or", a.d, b.d]
  | .alw => .tup [.s "always"]
  | .nev => .tup [.s "never"]
def Tr.holds (s : List Str) : Tr → Bool
  | .is x => decide (x ∈ s)
  | .nt t => !t.holds s
  | .an a b => a.holds s && b.holds s
  | .or a b => a.holds s || b.holds s
  | .alw => true
  | .nev => false
def Tr.names : Tr → List Str
  | .is x => [x]
  | .nt t => t.names
  | .an a b => a.names ++ b.names
  | .or a b => a.names ++ b.names
  | .alw => []
  | .nev => []
def Tr.depth : Tr → Nat
  | .is _ => 1
  | .nt t => t.depth + 1
  | .an a b => max a.depth b.depth + 1
  | .or a b => max a.depth b.depth + 1
  | .alw => 1
  | .nev => 1
def Tr.kids : Tr → List Tr
  | .is _ => []
  | .nt t => [t]
  | .an a b => [a, b]
  | .or a b => [a, b]
  | .alw => []
  | .nev => []
/-- small enough to be walked -/
def TrOk (t : Tr) : Prop := t.depth ≤ 5 ∧ t.names.length ≤ 8
inductive Ch where
  | tru | fls | add | take | emp
  deriving DecidableEq
def Ch.d : Ch → Dt
  | .tru => .b true
  | .fls => .b false
  | .add => .s "add"
  | .take => .s "take"
  | .emp => .s "empty"
def Ch.v : Ch → V
  | .tru => .bl true
  | .fls => .bl false
  | .add => .str "add"
  | .take => .str "take"
  | .emp => .str "empty"
theorem Ch.fv (c : Ch) : fV c.d = some c.v := by cases c <;> rfl
abbrev Out := List (Str × Ch)
structure Act where
  need : Tr
  parts : List Out
structure Wd where
  facts : List Str
  piles : List Str
  reserves : List Str
  table : List (Str × Act)
/-- the classes' addresses -/
abbrev cl (K : PySem.W.Frag) (x : Str) : Addr := He.ga K x
section
variable (K : PySem.W.Frag)
def fCond (t : Dt) : List (Str × Dt) := [("tree", t)]
def dCond (t : Tr) : Dt := .ins (cl K "Condition") (fCond t.d)
def kOut (o : Out) : List (Str × Dt) := o.map fun p => (p.1, p.2.d)
def fOut (t : Dt) : List (Str × Dt) := [("table", t)]
def dOut (o : Out) : Dt := .ins (cl K "Outcome") (fOut (.dK (kOut o)))
def fAct (n p : Dt) : List (Str × Dt) := [("need", n), ("parts", p)]
def dAct (a : Act) : Dt := .ins (cl K "Action") (fAct (dCond K a.need) (.lst (a.parts.map (dOut K))))
def kTab (t : List (Str × Act)) : List (Str × Dt) := t.map fun p => (p.1, dAct K p.2)
def fWd (f p r t : Dt) : List (Str × Dt) := [("fact_names", f), ("pile_names", p), ("reserve_names", r), ("table", t)]
def dWdT (w : Wd) (t : Dt) : Dt := .ins (cl K "World") (fWd (.lst (dStrs w.facts)) (.lst (dStrs w.piles)) (.lst (dStrs w.reserves)) t)
def dWd (w : Wd) : Dt := dWdT K w (.dK (kTab K w.table))
def fTask (w b a : Dt) : List (Str × Dt) := [("inner", w), ("begin", b), ("aimed", a)]
def dTask (w : Wd) (s g : Tr) : Dt := .ins (cl K "Task") (fTask (dWd K w) (dCond K s) (dCond K g))
end
/-- names as a list or a tuple -/
def dNm (b : Bool) (ns : List Str) : Dt := if b then .lst (dStrs ns) else .tup (dStrs ns)
theorem vw_nm {M : Mm} (b : Bool) (ns : List Str) : vw M (dNm b ns) = .lst (dStrs ns) ∨ dNm b ns = .tup (dStrs ns) := by
  cases b with
  | true => exact .inl rfl
  | false => exact .inr rfl
/-! what the walk takes of the head -/
structure Tx (K : PySem.W.Frag) (mg : Str → Option Value) : Prop where
  f_len : mg "len" = none
  f_all : mg "all" = none
  f_any : mg "any" = none
  f_sorted : mg "sorted" = none
  f_set : mg "set" = none
  f_str : mg "str" = none
  f_list : mg "list" = none
  f_tuple : mg "tuple" = none
  f_dict : mg "dict" = none
  f_range : mg "range" = none
  f_enumerate : mg "enumerate" = none
  f_int : mg "int" = none
  f_repr : mg "repr" = none
  f_isinstance : mg "isinstance" = none
  g_Condition : mg "Condition" = some (.ref (cl K "Condition"))
  g_Outcome : mg "Outcome" = some (.ref (cl K "Outcome"))
  g_Action : mg "Action" = some (.ref (cl K "Action"))
  g_World : mg "World" = some (.ref (cl K "World"))
  g_Task : mg "Task" = some (.ref (cl K "Task"))
  g_Game : mg "Game" = some (.ref (cl K "Game"))
  g_RESERVED : mg "RESERVED" = some (.ref (cl K "RESERVED"))
  g_LETTERS : ∃ u, mg "LETTERS" = some u ∧ RelV (.str "abcdefghijklmnopqrstuvwxyz") u
  reserved : ∀ H, SqT K H (cl K "RESERVED") ((["and", "or", "not", "always", "never"] : List Str).map V.str)
  cCond : Cls K (cl K "Condition")
  cOut : Cls K (cl K "Outcome")
  cAct : Cls K (cl K "Action")
  cWd : Cls K (cl K "World")
  cTask : Cls K (cl K "Task")
  cGame : Cls K (cl K "Game")
  n_tree : NoAttr K (cl K "Condition") "tree"
  n_otable : NoAttr K (cl K "Outcome") "table"
  n_need : NoAttr K (cl K "Action") "need"
  n_parts : NoAttr K (cl K "Action") "parts"
  n_facts : NoAttr K (cl K "World") "fact_names"
  n_piles : NoAttr K (cl K "World") "pile_names"
  n_reserves : NoAttr K (cl K "World") "reserve_names"
  n_table : NoAttr K (cl K "World") "table"
  n_inner : NoAttr K (cl K "Task") "inner"
  n_begin : NoAttr K (cl K "Task") "begin"
  n_aimed : NoAttr K (cl K "Task") "aimed"
  n_order : NoAttr K (cl K "Game") "order"
  n_tallies : NoAttr K (cl K "Game") "tallies"
  n_edges : NoAttr K (cl K "Game") "edges"
  n_choices : NoAttr K (cl K "Game") "choices"
  i_Condition : C8.InsC K (cl K "Condition")
  i_Outcome : C8.InsC K (cl K "Outcome")
  i_Action : C8.InsC K (cl K "Action")
  i_World : C8.InsC K (cl K "World")
  q_Wd : PySem.W.noSeq K (cl K "World") = true
  s_Cond : PySem.W.selfFirst K (cl K "Condition") = true
  s_Wd : PySem.W.selfFirst K (cl K "World") = true
end K85
set_option maxRecDepth 100000
set_option maxHeartbeats 0
/-! the head: what the top leaves -/
namespace K85
open PySem PySem.Spec PyProof.Rows L2
/-- a keyword's default, an object -/
def kwAt (f x : Str) (K : PySem.W.Frag) : Addr := match K.lookup (He.ga K f) with
  | some ⟨_, _, .func fd, _⟩ => (match fd.kwdefaults with
    | .ref d => (match PySem.W.nsIn K d x with
      | some (some (.ref a)) => a
      | _ => 0)
    | _ => 0)
  | _ => 0
def insB (K : PySem.W.Frag) (C : Addr) : Bool := He.eqO (PySem.W.findIn K (.ref C) "__class__") (some (some (.builtin "object.__class__"))) && (He.eqO (PySem.W.specialIn K (.builtin "object.__class__") "__get__") (some (some (.builtin "getset_descriptor.__get__"))) &&
  (decide (PySem.W.takesIn K (.builtin "object.__class__") = some true) && (decide (PySem.W.mroIn K C (.type "object") = some true) && decide (PySem.W.kitOne K (.ref C) (.ref C) = some true))))
def staB (K : PySem.W.Frag) (C : Addr) (m : Str) : Bool := PySem.W.readsIn K C (.type "type") && (He.eqO (PySem.W.specialIn K (.ref C) "__getattribute__") (some (some (.builtin "type.__getattribute__"))) && (decide (PySem.W.typeIn K (.ref C) = some (.type "type")) &&
  (He5.wrapB K C "staticmethod" "staticmethod.__get__" m && PySem.W.keepIn K (.ref (He5.wf K C "staticmethod" m)))))
def empB (K : PySem.W.Frag) (a : Addr) : Bool := match K.lookup a with
  | some ⟨.type c, _, .seq its _, _⟩ => decide (c = "tuple") && its.toList.isEmpty
  | _ => false
def exB (K : PySem.W.Frag) : Bool := PySem.W.noSeq K (He.ga K "World") && (PySem.W.selfFirst K (He.ga K "Condition") && (PySem.W.selfFirst K (He.ga K "World") &&
  (insB K (He.ga K "Condition") && (insB K (He.ga K "Outcome") && (insB K (He.ga K "Action") && (insB K (He.ga K "World") &&
  (staB K (He.ga K "Condition") "of" && (staB K (He.ga K "Condition") "always" && (staB K (He.ga K "Condition") "never" &&
  (He.tupB K "RESERVED" [.str "and", .str "or", .str "not", .str "always", .str "never"] && empB K (kwAt "won_states" "without" K)))))))))))
def hnm0 : List Str := ["Condition",
  "Outcome",
  "Action",
  "World",
  "Task",
  "Game",
  "is_name",
  "tree_holds",
  "names_in",
  "ascending",
  "sublists",
  "implies",
  "check_change",
  "check_lists",
  "copied_action",
  "sub_tuples",
  "same_world",
  "check_condition",
  "forced_action",
  "close_table",
  "falling_of",
  "won_by",
  "solve_game",
  "_law_draw",
  "_law_pick",
  "_law_mixed",
  "_law_same",
  "_law_name",
  "_law_names",
  "_law_condition"]
def hnm1 : List Str := ["_law_built",
  "_law_seen",
  "_law_changes",
  "_law_action",
  "_law_made",
  "_law_set",
  "_law_half",
  "_law_part",
  "law",
  "won_states",
  "RESERVED"]
def hnm : List Str := (hnm0 ++ hnm1)
def hfn0 : List He5.DefA := [⟨fun K => He.ga K "is_name", "is_name", "is_name", defArgs (top 22), defBody (top 22), defScope (top 22), [], []⟩,
  ⟨fun K => He.ga K "tree_holds", "tree_holds", "tree_holds", defArgs (top 35), defBody (top 35), defScope (top 35), [], []⟩,
  ⟨fun K => He.ga K "names_in", "names_in", "names_in", defArgs (top 36), defBody (top 36), defScope (top 36), [], []⟩,
  ⟨fun K => He.ga K "ascending", "ascending", "ascending", defArgs (top 23), defBody (top 23), defScope (top 23), [], []⟩,
  ⟨fun K => He.ga K "sublists", "sublists", "sublists", defArgs (top 37), defBody (top 37), defScope (top 37), [], []⟩,
  ⟨fun K => He.ga K "implies", "implies", "implies", defArgs (top 38), defBody (top 38), defScope (top 38), [], []⟩,
  ⟨fun K => He.ga K "check_change", "check_change", "check_change", defArgs (top 43), defBody (top 43), defScope (top 43), [], []⟩,
  ⟨fun K => He.ga K "check_lists", "check_lists", "check_lists", defArgs (top 27), defBody (top 27), defScope (top 27), [], []⟩,
  ⟨fun K => He.ga K "copied_action", "copied_action", "copied_action", defArgs (top 28), defBody (top 28), defScope (top 28), [], []⟩,
  ⟨fun K => He.ga K "sub_tuples", "sub_tuples", "sub_tuples", defArgs (top 29), defBody (top 29), defScope (top 29), [], []⟩,
  ⟨fun K => He.ga K "same_world", "same_world", "same_world", defArgs (top 30), defBody (top 30), defScope (top 30), [], []⟩,
  ⟨fun K => He.ga K "check_condition", "check_condition", "check_condition", defArgs (top 46), defBody (top 46), defScope (top 46), [], []⟩,
  ⟨fun K => He.ga K "forced_action", "forced_action", "forced_action", defArgs (top 3), defBody (top 3), defScope (top 3), [], []⟩,
  ⟨fun K => He.ga K "close_table", "close_table", "close_table", defArgs (top 4), defBody (top 4), defScope (top 4), [], []⟩,
  ⟨fun K => He.ga K "falling_of", "falling_of", "falling_of", defArgs (top 5), defBody (top 5), defScope (top 5), [], []⟩,
  ⟨fun K => He.ga K "won_by", "won_by", "won_by", defArgs (top 6), defBody (top 6), defScope (top 6), [], []⟩,
  ⟨fun K => He.ga K "solve_game", "solve_game", "solve_game", defArgs (top 7), defBody (top 7), defScope (top 7), [], []⟩,
  ⟨fun K => He.ga K "_law_draw", "_law_draw", "_law_draw", defArgs (top 49), defBody (top 49), defScope (top 49), [], []⟩,
  ⟨fun K => He.ga K "_law_pick", "_law_pick", "_law_pick", defArgs (top 50), defBody (top 50), defScope (top 50), [], []⟩,
  ⟨fun K => He.ga K "_law_mixed", "_law_mixed", "_law_mixed", defArgs (top 51), defBody (top 51), defScope (top 51), [], []⟩,
  ⟨fun K => He.ga K "_law_same", "_law_same", "_law_same", defArgs (top 52), defBody (top 52), defScope (top 52), [], []⟩,
  ⟨fun K => He.ga K "_law_name", "_law_name", "_law_name", defArgs (top 53), defBody (top 53), defScope (top 53), [], []⟩,
  ⟨fun K => He.ga K "_law_names", "_law_names", "_law_names", defArgs (top 54), defBody (top 54), defScope (top 54), [], []⟩,
  ⟨fun K => He.ga K "_law_condition", "_law_condition", "_law_condition", defArgs (top 55), defBody (top 55), defScope (top 55), [], []⟩,
  ⟨fun K => He.ga K "_law_built", "_law_built", "_law_built", defArgs (top 56), defBody (top 56), defScope (top 56), [], []⟩,
  ⟨fun K => He.ga K "_law_seen", "_law_seen", "_law_seen", defArgs (top 57), defBody (top 57), defScope (top 57), [], []⟩,
  ⟨fun K => He.ga K "_law_changes", "_law_changes", "_law_changes", defArgs (top 58), defBody (top 58), defScope (top 58), [], []⟩,
  ⟨fun K => He.ga K "_law_action", "_law_action", "_law_action", defArgs (top 59), defBody (top 59), defScope (top 59), [], []⟩,
  ⟨fun K => He.ga K "_law_made", "_law_made", "_law_made", defArgs (top 60), defBody (top 60), defScope (top 60), [], []⟩,
  ⟨fun K => He.ga K "_law_set", "_law_set", "_law_set", defArgs (top 61), defBody (top 61), defScope (top 61), [], []⟩]
def hfn1 : List He5.DefA := [⟨fun K => He.ga K "_law_half", "_law_half", "_law_half", defArgs (top 62), defBody (top 62), defScope (top 62), [], []⟩,
  ⟨fun K => He.ga K "_law_part", "_law_part", "_law_part", defArgs (top 63), defBody (top 63), defScope (top 63), [], []⟩,
  ⟨fun K => He.ga K "law", "law", "law", defArgs (top 64), defBody (top 64), defScope (top 64), [], []⟩,
  ⟨fun K => He.ga K "won_states", "won_states", "won_states", defArgs (top 33), defBody (top 33), defScope (top 33), [], [("without", .adr (kwAt "won_states" "without"))]⟩,
  ⟨fun K => He.ma K (He.ga K "Condition") "names", "names", "Condition.names", defArgs (inClass (top 41) 4), defBody (inClass (top 41) 4), defScope (inClass (top 41) 4), [], []⟩,
  ⟨fun K => He.ma K (He.ga K "Condition") "__call__", "__call__", "Condition.__call__", defArgs (inClass (top 41) 5), defBody (inClass (top 41) 5), defScope (inClass (top 41) 5), [], []⟩,
  ⟨fun K => He.ma K (He.ga K "Condition") "__and__", "__and__", "Condition.__and__", defArgs (inClass (top 41) 7), defBody (inClass (top 41) 7), defScope (inClass (top 41) 7), [], []⟩,
  ⟨fun K => He.ma K (He.ga K "Condition") "__or__", "__or__", "Condition.__or__", defArgs (inClass (top 41) 8), defBody (inClass (top 41) 8), defScope (inClass (top 41) 8), [], []⟩,
  ⟨fun K => He.ma K (He.ga K "Condition") "__invert__", "__invert__", "Condition.__invert__", defArgs (inClass (top 41) 9), defBody (inClass (top 41) 9), defScope (inClass (top 41) 9), [], []⟩,
  ⟨fun K => He.ma K (He.ga K "Condition") "__eq__", "__eq__", "Condition.__eq__", defArgs (inClass (top 41) 10), defBody (inClass (top 41) 10), defScope (inClass (top 41) 10), [], []⟩,
  ⟨fun K => He.ma K (He.ga K "Outcome") "names", "names", "Outcome.names", defArgs (inClass (top 44) 1), defBody (inClass (top 44) 1), defScope (inClass (top 44) 1), [], []⟩,
  ⟨fun K => He.ma K (He.ga K "Outcome") "copy", "copy", "Outcome.copy", defArgs (inClass (top 44) 2), defBody (inClass (top 44) 2), defScope (inClass (top 44) 2), [], []⟩,
  ⟨fun K => He.ma K (He.ga K "Outcome") "__getitem__", "__getitem__", "Outcome.__getitem__", defArgs (inClass (top 44) 3), defBody (inClass (top 44) 3), defScope (inClass (top 44) 3), [], []⟩,
  ⟨fun K => He.ma K (He.ga K "Outcome") "__eq__", "__eq__", "Outcome.__eq__", defArgs (inClass (top 44) 8), defBody (inClass (top 44) 8), defScope (inClass (top 44) 8), [], []⟩,
  ⟨fun K => He.ma K (He.ga K "Action") "outcome", "outcome", "Action.outcome", defArgs (inClass (top 25) 1), defBody (inClass (top 25) 1), defScope (inClass (top 25) 1), [], []⟩,
  ⟨fun K => He.ma K (He.ga K "Action") "__len__", "__len__", "Action.__len__", defArgs (inClass (top 25) 2), defBody (inClass (top 25) 2), defScope (inClass (top 25) 2), [], []⟩,
  ⟨fun K => He.ma K (He.ga K "Action") "__eq__", "__eq__", "Action.__eq__", defArgs (inClass (top 25) 3), defBody (inClass (top 25) 3), defScope (inClass (top 25) 3), [], []⟩,
  ⟨fun K => He.ma K (He.ga K "World") "seen", "seen", "World.seen", defArgs (inClass (top 31) 4), defBody (inClass (top 31) 4), defScope (inClass (top 31) 4), [], []⟩,
  ⟨fun K => He.ma K (He.ga K "World") "counters", "counters", "World.counters", defArgs (inClass (top 31) 5), defBody (inClass (top 31) 5), defScope (inClass (top 31) 5), [], []⟩,
  ⟨fun K => He.ma K (He.ga K "World") "check_change_of", "check_change_of", "World.check_change_of", defArgs (inClass (top 31) 9), defBody (inClass (top 31) 9), defScope (inClass (top 31) 9), [], []⟩,
  ⟨fun K => He.ma K (He.ga K "World") "takes_reserve", "takes_reserve", "World.takes_reserve", defArgs (inClass (top 31) 10), defBody (inClass (top 31) 10), defScope (inClass (top 31) 10), [], []⟩,
  ⟨fun K => He.ma K (He.ga K "World") "check_action", "check_action", "World.check_action", defArgs (inClass (top 31) 11), defBody (inClass (top 31) 11), defScope (inClass (top 31) 11), [], []⟩,
  ⟨fun K => He.ma K (He.ga K "World") "states", "states", "World.states", defArgs (inClass (top 31) 12), defBody (inClass (top 31) 12), defScope (inClass (top 31) 12), [], []⟩,
  ⟨fun K => He.ma K (He.ga K "World") "state_of", "state_of", "World.state_of", defArgs (inClass (top 31) 13), defBody (inClass (top 31) 13), defScope (inClass (top 31) 13), [], []⟩,
  ⟨fun K => He.ma K (He.ga K "World") "fits", "fits", "World.fits", defArgs (inClass (top 31) 14), defBody (inClass (top 31) 14), defScope (inClass (top 31) 14), [], []⟩,
  ⟨fun K => He.ma K (He.ga K "World") "possible", "possible", "World.possible", defArgs (inClass (top 31) 15), defBody (inClass (top 31) 15), defScope (inClass (top 31) 15), [], []⟩,
  ⟨fun K => He.ma K (He.ga K "World") "checked", "checked", "World.checked", defArgs (inClass (top 31) 16), defBody (inClass (top 31) 16), defScope (inClass (top 31) 16), [], []⟩,
  ⟨fun K => He.ma K (He.ga K "World") "behind", "behind", "World.behind", defArgs (inClass (top 31) 17), defBody (inClass (top 31) 17), defScope (inClass (top 31) 17), [], []⟩,
  ⟨fun K => He.ma K (He.ga K "World") "results", "results", "World.results", defArgs (inClass (top 31) 18), defBody (inClass (top 31) 18), defScope (inClass (top 31) 18), [], []⟩,
  ⟨fun K => He.ma K (He.ga K "World") "shifts", "shifts", "World.shifts", defArgs (inClass (top 31) 20), defBody (inClass (top 31) 20), defScope (inClass (top 31) 20), [], []⟩]
def hfn2 : List He5.DefA := [⟨fun K => He.ma K (He.ga K "World") "copy", "copy", "World.copy", defArgs (inClass (top 31) 7), defBody (inClass (top 31) 7), defScope (inClass (top 31) 7), [], []⟩,
  ⟨fun K => He.ma K (He.ga K "World") "__setitem__", "__setitem__", "World.__setitem__", defArgs (inClass (top 31) 23), defBody (inClass (top 31) 23), defScope (inClass (top 31) 23), [], []⟩,
  ⟨fun K => He.ma K (He.ga K "World") "__or__", "__or__", "World.__or__", defArgs (inClass (top 31) 27), defBody (inClass (top 31) 27), defScope (inClass (top 31) 27), [], []⟩,
  ⟨fun K => He.ma K (He.ga K "World") "same_lists", "same_lists", "World.same_lists", defArgs (inClass (top 31) 21), defBody (inClass (top 31) 21), defScope (inClass (top 31) 21), [], []⟩,
  ⟨fun K => He.ma K (He.ga K "World") "__eq__", "__eq__", "World.__eq__", defArgs (inClass (top 31) 28), defBody (inClass (top 31) 28), defScope (inClass (top 31) 28), [], []⟩,
  ⟨fun K => He.ma K (He.ga K "Task") "base", "base", "Task.base", defArgs (inClass (top 47) 5), defBody (inClass (top 47) 5), defScope (inClass (top 47) 5), [], []⟩,
  ⟨fun K => He.ma K (He.ga K "Task") "goals", "goals", "Task.goals", defArgs (inClass (top 47) 7), defBody (inClass (top 47) 7), defScope (inClass (top 47) 7), [], []⟩,
  ⟨fun K => He.ma K (He.ga K "Game") "added_edges", "added_edges", "Game.added_edges", defArgs (inClass (top 2) 1), defBody (inClass (top 2) 1), defScope (inClass (top 2) 1), [], []⟩,
  ⟨fun K => He.ma K (He.ga K "Condition") "__init__", "__init__", "Condition.__init__", defArgs (inClass (top 41) 0), defBody (inClass (top 41) 0), defScope (inClass (top 41) 0), [], []⟩,
  ⟨fun K => He.ma K (He.ga K "Outcome") "__init__", "__init__", "Outcome.__init__", defArgs (inClass (top 44) 0), defBody (inClass (top 44) 0), defScope (inClass (top 44) 0), [.non], []⟩,
  ⟨fun K => He.ma K (He.ga K "Action") "__init__", "__init__", "Action.__init__", defArgs (inClass (top 25) 0), defBody (inClass (top 25) 0), defScope (inClass (top 25) 0), [], []⟩,
  ⟨fun K => He.ma K (He.ga K "Task") "__init__", "__init__", "Task.__init__", defArgs (inClass (top 47) 0), defBody (inClass (top 47) 0), defScope (inClass (top 47) 0), [], []⟩,
  ⟨fun K => He.ma K (He.ga K "Game") "__init__", "__init__", "Game.__init__", defArgs (inClass (top 2) 0), defBody (inClass (top 2) 0), defScope (inClass (top 2) 0), [], []⟩,
  ⟨fun K => He.ma K (He.ga K "World") "__init__", "__init__", "World.__init__", defArgs (inClass (top 31) 0), defBody (inClass (top 31) 0), defScope (inClass (top 31) 0), [.adr (He.dflAt ("World", some "__init__") 0), .adr (He.dflAt ("World", some "__init__") 1), .adr (He.dflAt ("World", some "__init__") 2), .non], []⟩,
  ⟨fun K => He5.wf K (He.ga K "Condition") "staticmethod" "of", "of", "Condition.of", defArgs (inClass (top 41) 1), defBody (inClass (top 41) 1), defScope (inClass (top 41) 1), [], []⟩,
  ⟨fun K => He5.wf K (He.ga K "Condition") "staticmethod" "always", "always", "Condition.always", defArgs (inClass (top 41) 2), defBody (inClass (top 41) 2), defScope (inClass (top 41) 2), [], []⟩,
  ⟨fun K => He5.wf K (He.ga K "Condition") "staticmethod" "never", "never", "Condition.never", defArgs (inClass (top 41) 3), defBody (inClass (top 41) 3), defScope (inClass (top 41) 3), [], []⟩]
def hfn : List He5.DefA := (hfn0 ++ (hfn1 ++ hfn2))
def hfa0 : List He.Fa := [.free "len",
  .free "all",
  .free "any",
  .free "sorted",
  .free "set",
  .free "str",
  .free "list",
  .free "tuple",
  .free "dict",
  .free "range",
  .free "enumerate",
  .free "int",
  .free "repr",
  .free "isinstance",
  .glo "is_name",
  .glo "tree_holds",
  .glo "names_in",
  .glo "ascending",
  .glo "sublists",
  .glo "implies",
  .glo "check_change",
  .glo "check_lists",
  .glo "copied_action",
  .glo "sub_tuples",
  .glo "same_world",
  .glo "check_condition",
  .glo "forced_action",
  .glo "close_table",
  .glo "falling_of",
  .glo "won_by",
  .glo "solve_game",
  .glo "_law_draw",
  .glo "_law_pick",
  .glo "_law_mixed",
  .glo "_law_same",
  .glo "_law_name",
  .glo "_law_names",
  .glo "_law_condition",
  .glo "_law_built",
  .glo "_law_seen"]
def hfa1 : List He.Fa := [.glo "_law_changes",
  .glo "_law_action",
  .glo "_law_made",
  .glo "_law_set",
  .glo "_law_half",
  .glo "_law_part",
  .glo "law",
  .glo "won_states",
  .glo "RESERVED",
  .glo "Condition",
  .glo "Outcome",
  .glo "Action",
  .glo "World",
  .glo "Task",
  .glo "Game",
  .str "LETTERS" "abcdefghijklmnopqrstuvwxyz",
  .cls "Condition",
  .cls "Outcome",
  .cls "Action",
  .cls "World",
  .cls "Task",
  .cls "Game",
  .noat "Condition" "tree",
  .noat "Outcome" "table",
  .noat "Action" "need",
  .noat "Action" "parts",
  .noat "World" "fact_names",
  .noat "World" "pile_names",
  .noat "World" "reserve_names",
  .noat "World" "table",
  .noat "Task" "inner",
  .noat "Task" "begin",
  .noat "Task" "aimed",
  .noat "Game" "order",
  .noat "Game" "tallies",
  .noat "Game" "edges",
  .noat "Game" "choices",
  .meth "Condition" "names",
  .meth "Condition" "__call__",
  .meth "Condition" "__and__"]
def hfa2 : List He.Fa := [.meth "Condition" "__or__",
  .meth "Condition" "__invert__",
  .meth "Condition" "__eq__",
  .meth "Outcome" "names",
  .meth "Outcome" "copy",
  .meth "Outcome" "__getitem__",
  .meth "Outcome" "__eq__",
  .meth "Action" "outcome",
  .meth "Action" "__len__",
  .meth "Action" "__eq__",
  .meth "World" "seen",
  .meth "World" "counters",
  .meth "World" "check_change_of",
  .meth "World" "takes_reserve",
  .meth "World" "check_action",
  .meth "World" "states",
  .meth "World" "state_of",
  .meth "World" "fits",
  .meth "World" "possible",
  .meth "World" "checked",
  .meth "World" "behind",
  .meth "World" "results",
  .meth "World" "shifts",
  .meth "World" "copy",
  .meth "World" "__setitem__",
  .meth "World" "__or__",
  .meth "World" "same_lists",
  .meth "World" "__eq__",
  .meth "Task" "base",
  .meth "Task" "goals",
  .meth "Game" "added_edges",
  .mkr "Condition",
  .mkr "Outcome",
  .mkr "Action",
  .mkr "Task",
  .mkr "Game",
  .mkr "World"]
def hfa : List He.Fa := (hfa0 ++ (hfa1 ++ hfa2))
abbrev AlM : Type := (Bool × Bool) × List He.FnW
def obsM (K : PySem.W.Frag) : AlM := ((hfa.all fun f => f.ok K, exB K && hfn.all fun d => d.ok K), hfn.map fun d => He5.fnA K (d.at_ K))
def valM : AlM := ((true, true), hfn.map He5.DefA.val)
/-- what the facts look at: the names, what they hold -/
def refsM (o : Obj) : List Addr := match o.data with
  | .func fd => He.refV fd.code ++ (He.refV fd.defaults ++ He.refV fd.kwdefaults)
  | .cls cd => [cd.ns]
  | .dict es _ => es.toList.flatMap fun e => He.refV e.val
  | .seq its _ => its.toList.flatMap He.refV
  | .fields vs => (match o.cls with
    | .type c => if c = "staticmethod" then vs.toList.flatMap He.refV else []
    | _ => [])
  | _ => []
def nextM (g : Addr → Option Obj) (l : List Addr) : List Addr := l.flatMap fun a => match g a with
  | some o => refsM o
  | none => []
def lv1 (g : Addr → Option Obj) : List Addr := hnm.map (He.ga (He.frG g [mainGlobals]))
def reachM (g : Addr → Option Obj) (n : Nat) (l : List Addr) : List Addr := match n with
  | 0 => l
  | n + 1 => l ++ reachM g n (nextM g l)
def asM (g : Addr → Option Obj) : List Addr := mainGlobals :: (reachM g 4 (lv1 g) ++ [cStatics])
def obsMG (g : Addr → Option Obj) : AlM := obsM (He.frG g (asM g))
def hookM : PySem.W.Hook where
  α := AlM
  obs := fun s => obsMG s.heap.get?
  val := fun _ => valM
  says := fun _ h => ∃ K : PySem.W.Frag, K.In h ∧ obsM K = valM
  of := fun _ _ e => ⟨_, He.frG_in, e⟩
  keeps := fun _ _ _ ⟨K, hK, c⟩ k => ⟨K, PySem.W.Frag.In.keeps hK k, c⟩
abbrev Rw : PySem.W.OpenRow := PySem.W.OpenLaw.row PySem.Challenge.rw_noneorsome_k85_whole_both_and_either
abbrev qv : Program := PySem.W.view Rw.prog [64]
def names1 : List Str := ["__name__", "_wall", "Game", "forced_action", "close_table", "falling_of", "won_by", "solve_game", "PlanError", "BadName", "NameInUse", "UnknownName", "BadChange", "NoOutcome", "NoFreeOutcome", "UnknownAction", "NotPossible", "NoState", "RESERVED", "LETTERS", "is_name", "ascending", "Action", "check_lists", "copied_action", "sub_tuples", "same_world", "World", "won_states"]
def names2 : List Str := ["tree_holds", "names_in", "sublists", "implies", "tree_text", "operand_text", "Condition", "check_change", "Outcome", "check_condition", "Task", "_law_draw", "_law_pick", "_law_mixed", "_law_same", "_law_name", "_law_names", "_law_condition", "_law_built", "_law_seen", "_law_changes", "_law_action", "_law_made", "_law_set", "_law_half", "_law_part"]
def hnames : List Str := names1 ++ names2
def hob (s : PySem.W.SharedT) : AlM := obsMG (HandSHeadRun.getT s)
theorem hob_eq (s : PySem.W.SharedT) : hob s = hookM.obs s.abs := by
  have e : HandSHeadRun.getT s = s.abs.heap.get? := funext (HandSHeadRun.getT_eq s)
  show obsMG (HandSHeadRun.getT s) = obsMG s.abs.heap.get?
  rw [e]
theorem hrun (w : World) : HandSHeadRun.RunEq Rw qv hookM hob 20000 hnames w := by
  intro os
  kernel_rfl
end K85
set_option maxRecDepth 100000
set_option maxHeartbeats 3200000
/-! sorted(set(xs)), xs a list of texts. -/
namespace K85
open PySem L2 PySem.Spec PyProof.Rows
def sKey (e : Int × Value) : Str := match e.2 with | .str k _ => k | _ => Str.empty
def GoodS (w : World) (e : Int × Value) : Prop := ∃ k tk, e.2 = Value.str k tk ∧ e.1 = hashStr w k
/-- the set of the texts l at a, of at most n -/
def SetS (w : World) (h : Heap) (a : Addr) (l : List Str) (n : Nat) : Prop :=
  ∃ o es ep t, h.get? a = some o ∧ o.ExactSet ∧ o.data = .set es ep t ∧ (∀ e ∈ es.toList, GoodS w e) ∧ (∀ k, k ∈ l ↔ k ∈ es.toList.map sKey) ∧
    es.size ≤ n ∧ t.fits es.size = true ∧ Ris t.place.toList ∧ (w.params.followText "set-order" = true ∨ t.led = true)
section
variable {P : Program} {w : World} {A : Around} {E : Value → Shared → Prop} {s : Shared} {h h' : Heap} {a : Addr} {l : List Str} {n : Nat}
theorem SetS.at (R : SetS w h a l n) (k : ∀ o, h.get? a = some o → h'.get? a = some o) : SetS w h' a l n := by
  obtain ⟨o, es, ep, t, ho, r⟩ := R
  exact ⟨o, es, ep, t, k o ho, r⟩
theorem goodS_elems {l : List (Int × Value)} (g : ∀ e ∈ l, GoodS w e) : ElemsOf (strKind P w) l := fun e he => by
  obtain ⟨k, tk, h1, h2⟩ := g e he
  refine ⟨⟨k, ?_, h2⟩, ?_⟩
  · rw [h1]
    exact PySem.Froz.is_str k tk
  · rw [h1] <;> rfl
theorem goodS_is {e : Int × Value} (g : GoodS w e) (k : Str) : (strKind P w).is k e.2 = true ↔ sKey e = k := by
  obtain ⟨k0, tk, h1, _⟩ := g
  have e1 : sKey e = k0 := by
    unfold sKey
    rw [h1]
  rw [e1, h1]
  constructor
  · intro q
    exact (strKind P w).inj (.str k0 tk) k0 k (PySem.Froz.is_str k0 tk) q
  · rintro rfl
    exact PySem.Froz.is_str _ _
theorem goodS_mem {l : List (Int × Value)} (g : ∀ e ∈ l, GoodS w e) (k : Str) : k ∈ l.map sKey ↔ ∃ e ∈ l, (strKind P w).is k e.2 = true := by
  constructor
  · intro h
    obtain ⟨e, he, q⟩ := List.mem_map.mp h
    exact ⟨e, he, (goodS_is (P := P) (g e he) k).2 q⟩
  · rintro ⟨e, he, q⟩
    exact List.mem_map.mpr ⟨e, he, (goodS_is (P := P) (g e he) k).1 q⟩
theorem setS_add_tail {g : Bool → Sem Unit} (hg : ∀ (b : Bool) (s₁ : Shared) (Q' : Unit → Shared → Prop), Q' () s₁ → wpAny (model P w) A (g b) Q' E s₁)
    {o : Obj} {es : Array (Int × Value)} {ep : Nat} {t : SetTable} (ho : s.heap.get? a = some o) (hex : o.ExactSet) (hd : o.data = .set es ep t)
    {es1 : Array (Int × Value)} {t2 : SetTable} {l' : List Str} (g1 : ∀ e ∈ es1.toList, GoodS w e) (m1 : ∀ k, k ∈ l' ↔ k ∈ es1.toList.map sKey)
    (hb1 : es1.size < scanBound) (hf2 : t2.fits es1.size = true) (hr : Ris t2.place.toList) (hl : w.params.followText "set-order" = true ∨ t2.led = true) {wasDummy : Bool} {R : Option Bool → Shared → Prop}
    (hR : ∀ h', Heap.SameBut a s.heap h' → SetS w h' a l' es1.size → R (some true) { s with heap := h' }) :
    wpAny (model P w) A (do
        storeSet a es1 t2
        if (!wasDummy && t2.tooFull) = true then do
            g (relayAll t2 es1 (SetTable.grown es1.size)).2.2
            storeSet a (relayAll t2 es1 (SetTable.grown es1.size)).1 (relayAll t2 es1 (SetTable.grown es1.size)).2.1
            pure (some true)
          else pure (some true)) R E s := by
  refine wpAny_bind (wpAny_storeSet_of ho hd ?_ (fits_of_scanBound hb1))
  have ho1 := store_at (es' := es1) (t' := t2) ho hd
  have sb1 := Heap.SameBut.update s.heap a (Obj.putSet es1 t2)
  split
  · have pm := relayAll_perm t2 es1 (SetTable.grown es1.size)
    have hf3 := relayAll_fits t2 es1 (SetTable.grown es1.size)
    have hr3 := relayAll_ris t2 es1 (SetTable.grown es1.size)
    have hl3 := relayAll_led t2 es1 (SetTable.grown es1.size)
    generalize relayAll t2 es1 (SetTable.grown es1.size) = Z at pm hf3 hr3 hl3 ⊢
    obtain ⟨es2, t3, gave⟩ := Z
    dsimp only at pm hf3 hr3 hl3 ⊢
    have hsz : es2.size = es1.size := by rw [← Array.length_toList, pm.length_eq, Array.length_toList]
    have hb2 : es2.size < scanBound := by rw [hsz]; exact hb1
    refine wpAny_bind (hg _ _ _ ?_)
    refine wpAny_bind (wpAny_storeSet_of ho1 rfl ?_ (fits_of_scanBound hb2))
    have ho2 := store_at (es' := es2) (t' := t3) ho1 rfl
    refine wpAny_pure (hR _ (sb1.trans (Heap.SameBut.update _ a _)) ?_)
    exact ⟨_, es2, _, t3, ho2, hex, rfl, fun e he => g1 e (pm.mem_iff.mp he), fun k => (m1 k).trans (pm.map sKey).mem_iff.symm, Nat.le_of_eq hsz, hf3, hr3,
      hl.imp id fun z => by rw [hl3]; exact z⟩
  · exact wpAny_pure (hR _ sb1 ⟨_, es1, _, t2, ho1, hex, rfl, g1, m1, Nat.le_refl _, hf2, hr, hl⟩)
theorem setS_add_hashed {k : Str} {tk : Tok} {Q : Bool → Shared → Prop} (R : SetS w s.heap a l n) (room : n + 1 < scanBound)
    (hQ : ∀ b h', Heap.SameBut a s.heap h' → SetS w h' a (k :: l) (n + 1) → Q b { s with heap := h' }) :
    wpAny (model P w) A (setAddHashed a (.str k tk) ((strKind P w).hash k)) Q E s := by
  obtain ⟨o, es, ep, t, ho, hex, hd, g, hm, hn, hf, hr, hl⟩ := R
  have hkey : (strKind P w).is k (.str k tk) = true := PySem.Froz.is_str k tk
  have hsc : (Value.str k tk).scannable = true := rfl
  have hel : ElemsOf (strKind P w) es.toList := goodS_elems g
  have hb : es.size < scanBound := by omega
  unfold setAddHashed setAddHashedIn
  refine wpAny_holding (wpAny_bind (wpAny_setState_of ho hd hf ?_))
  dsimp only
  rw [byScan_of hsc hb hel]
  simp only [↓reduceIte]
  unfold setAddByScan
  refine wpAny_bind ?_
  refine wpAny_bind (wpAny_rule ?_)
  refine wpAny_bind (wpAny_setScan_of hkey ho hd hf hel ?_)
  cases hfi : List.findIdx? (fun e => (strKind P w).is k e.2) es.toList with
  | some j =>
    dsimp only
    obtain ⟨hj, pj, _⟩ := List.findIdx?_eq_some_iff_getElem.mp hfi
    have hSk : k ∈ l := (hm k).2 ((goodS_mem (P := P) (w := w) g k).2 ⟨es.toList[j], List.getElem_mem hj, pj⟩)
    refine wpAny_pure (wpAny_pure ?_)
    exact hQ _ s.heap (Heap.SameBut.refl a s.heap) ⟨o, es, ep, t, ho, hex, hd, g, fun i => by
      rw [List.mem_cons, ← hm i]
      exact ⟨fun z => z.elim (fun e => e ▸ hSk) id, .inr⟩, by omega, hf, hr, hl⟩
  | none =>
    dsimp only
    have hgw : ∀ (b : Bool) {s₁ : Shared} {Q' : Unit → Shared → Prop}, Q' () s₁ → wpAny (model P w) A (match b with | true => rule "set.scan.the-table-gave-way" | false => pure ()) Q' E s₁ :=
      fun b s₁ Q' q => by cases b <;> first | exact wpAny_pure q | exact wpAny_rule q
    have pm := layNew_perm t es ((strKind P w).hash k) (.str k tk)
    have hf1 := layNew_fits t es ((strKind P w).hash k) (.str k tk)
    have hr1 := layNew_ris t es ((strKind P w).hash k) (.str k tk) hr
    have hl1 := layNew_led t es ((strKind P w).hash k) (.str k tk)
    generalize layNew t es ((strKind P w).hash k) (.str k tk) = Z at pm hf1 hr1 hl1 ⊢
    obtain ⟨es1, t1, wasDummy, gave⟩ := Z
    dsimp only at pm hf1 hr1 hl1 ⊢
    rw [Array.toList_push] at pm
    have pc : es1.toList.Perm (((strKind P w).hash k, Value.str k tk) :: es.toList) := pm.trans (List.perm_append_singleton _ _)
    have pk : (es1.toList.map sKey).Perm (k :: es.toList.map sKey) := pc.map sKey
    have g1 : ∀ e ∈ es1.toList, GoodS w e := fun e he => by
      rcases List.mem_cons.mp (pc.mem_iff.mp he) with z | z
      · rw [z]; exact ⟨k, tk, rfl, rfl⟩
      · exact g e z
    have m1 : ∀ i, i ∈ k :: l ↔ i ∈ es1.toList.map sKey := fun i => by
      rw [List.mem_cons, hm i, pk.mem_iff, List.mem_cons]
    have hsz : es1.size = es.size + 1 := by rw [← Array.length_toList, pc.length_eq, List.length_cons, Array.length_toList]
    have hb1 : es1.size < scanBound := by omega
    have hled : w.params.followText "set-order" = true ∨ t1.led = true := hl.imp id fun z => by rw [hl1]; exact z
    have fin : ∀ h', Heap.SameBut a s.heap h' → SetS w h' a (k :: l) es1.size → Q true { s with heap := h' } := fun h' sb r => by
      obtain ⟨o, es', ep, t, r1, r2, r3, r4, r5, r6, r7⟩ := r
      exact hQ true h' sb ⟨o, es', ep, t, r1, r2, r3, r4, r5, by omega, r7⟩
    refine wpAny_bind (hgw _ ?_)
    split
    · refine wpAny_bind ?_
      rw [hashByValue_scannable 8 hsc]
      refine wpAny_pure ?_
      refine setS_add_tail ?_ ho hex hd g1 m1 hb1 ?_ ?_ ?_ ?_
      · intro b s₁ Q' q; cases b <;> first | exact wpAny_pure q | exact wpAny_rule q
      · first | (split <;> first | exact hf1 | exact SetTable.fits_plain_off hf1) | exact hf1
      · first | (split <;> exact hr1) | exact hr1
      · first | (split <;> exact hled) | exact hled
      · intro h' sb r; dsimp only; exact wpAny_pure (fin h' sb r)
    · refine wpAny_bind (wpAny_pure ?_)
      simp only [↓reduceIte]
      refine setS_add_tail ?_ ho hex hd g1 m1 hb1 hf1 hr1 hled ?_
      · intro b s₁ Q' q; cases b <;> first | exact wpAny_pure q | exact wpAny_rule q
      · intro h' sb r; dsimp only; exact wpAny_pure (fin h' sb r)
/-- set.update's loop -/
theorem set_update_txts {I : Addr} {fp wr : List Addr} {G : Array GenState → Array GenState → Prop} {n : Nat} {Pv : Nat → Value → Prop} {St : Nat → Shared → Prop} {R : Result → Shared → Prop}
    (W : WalksS P w A.in1 I fp wr G n Pv St) (S : Addr) (hSf : S ∉ fp) (ks : List Str) (hn : n = ks.length) (hfew : ks.length < 64) (hval : ∀ i v, Pv i v → ∃ p tk, ks[i]? = some p ∧ v = .str p tk) :
    ∀ (k i : Nat) (s : Shared), n - i = k → i ≤ n → St i s → (∃ L, SetS w s.heap S L i ∧ ∀ x, x ∈ L ↔ x ∈ ks.take i) →
      (∀ s' L, Moved (S :: wr) G s s' → SetS w s'.heap S L n → (∀ x, x ∈ L ↔ x ∈ ks) → R (.ok (.ret .none)) s') →
      codeAny (model P w) A (.builtin "set.update.loop" ⟨[.ref S, .ref I], []⟩) R s := by
  have hSw : S ∉ wr := fun h => hSf (W.sub _ h)
  have hsub : ∀ b ∈ wr, b ∈ S :: wr := fun b hb => List.mem_cons_of_mem _ hb
  intro k
  induction k with
  | zero =>
    intro i s hk' hi hst ⟨L, hS, g⟩ hR
    have hin : i = n := by omega
    subst hin
    refine codeAny_builtin F.entry_set_update_loop ?_
    rw [Around.under_plainId F.plain_set_update_loop _]
    show wpAny _ A.in1 (pyNext (.ref I) >>= _) _ _ s
    refine wpAny_bind (W.done s _ _ hst fun s' hm => ?_)
    show wpAny _ A.in1 (ret Value.none) _ _ s'
    exact wpAny_pure (hR s' L (hm.mono hsub) (hS.at fun o e => hm.heap S o hSw e) fun x => by rw [g x, hn, List.take_length])
  | succ k ih =>
    intro i s hk' hi hst ⟨L, hS, g⟩ hR
    have hlt : i < n := by omega
    refine codeAny_builtin F.entry_set_update_loop ?_
    rw [Around.under_plainId F.plain_set_update_loop _]
    show wpAny _ A.in1 (pyNext (.ref I) >>= _) _ _ s
    refine wpAny_bind (W.item i s _ _ hlt hst fun v s' hP hst' hm => ?_)
    obtain ⟨p, tk, hp, rfl⟩ := hval i v hP
    have hS' : SetS w s'.heap S L i := hS.at fun o e => hm.heap S o hSw e
    show wpAny _ A.in1 (holding [Value.str p tk] (setAdd S (.str p tk)) >>= _) _ _ s'
    refine wpAny_bind (wpAny_holding ?_)
    unfold setAdd
    refine wpAny_holding ?_
    refine wpAny_bind ((strKind P w).pyHash (k := p) (PySem.Froz.is_str p tk) ?_)
    refine setS_add_hashed (s := { s' with toks := s'.toks + 1 }) hS' (by unfold scanBound; omega) fun b h' hsb hS2 => ?_
    have g' : ∀ x, x ∈ p :: L ↔ x ∈ ks.take (i + 1) := fun x => by
      rw [take_next hp, List.mem_append, List.mem_cons, List.mem_singleton, g x]
      exact Or.comm
    refine wpAny_pure ⟨plainId_quiet F.plain_set_update_loop _, ih (i + 1) _ (by omega) hlt (W.frame _ s' _ _ hst' (Nat.le_add_right _ _) fun b hb o e => ?_) ⟨_, hS2, g'⟩ fun s'' L2 hm'' hS'' g'' => ?_⟩
    · rw [hsb.2 b (fun h : b = S => hSf (by rw [← h]; exact hb))]; exact e
    · refine hR s'' L2 (Moved.trans W.gtrans ((hm.mono hsub).then_heap (Nat.le_add_right _ _) fun b o hb e => ?_) hm'') hS'' g''
      rw [hsb.2 b (fun h : b = S => hb (by rw [h]; exact List.mem_cons_self))]; exact e
theorem setS_fresh {h : Heap} {a : Addr} (ho : h.get? a = some { cls := .type "set", dict := none, data := .set #[] 0 (.fresh 0 0 (!w.params.followText "set-order")) }) : SetS w h a [] 0 :=
  ⟨_, #[], 0, _, ho, ⟨rfl, rfl, rfl⟩, rfl, (fun e he => by simp at he), (fun k => by simp), Nat.le_refl _, (by rfl), List.Pairwise.nil, by
    show _ ∨ (!w.params.followText "set-order") = true
    cases w.params.followText "set-order"
    · exact .inr rfl
    · exact .inl rfl⟩
/-- set(xs) -/
theorem call_set_txts {l : Addr} {items : Array Value} (ks : List Str) {Q : Value → Shared → Prop} (hh : A.handled = none) (hl : s.heap.IsList l items) (hit : StrsAre items.toList ks) (hfew : ks.length < 64)
    (h : ∀ (h' : Heap) (tk : Nat) L, SetS w h' s.heap.objs.size L ks.length → (∀ x, x ∈ L ↔ x ∈ ks) → (∀ b o, b < s.heap.objs.size → s.heap.get? b = some o → h'.get? b = some o) → Q (.ref s.heap.objs.size) { s with heap := h', toks := tk }) :
    wpAny (model P w) A (call (.type "set") [.ref l]) Q E s := by
  have hisz : items.size = ks.length := by
    rw [← Array.length_toList]
    exact hit.length
  obtain ⟨c, tl, hmro⟩ := F.called_set.mro
  have hmade := F.called_set.made
  have hsub := F.called_set.sub
  refine wpAny_call (codeAny_of_tree ?_)
  show wpAny _ _ (callAny (.type "set") _) _ _ _
  refine wpAny_pure ⟨Code.quiet_builtin _ (by decide +kernel), codeAny_builtin F.entry_type_call ?_⟩
  rw [Around.under_plain (weight_type_call_type "set" [.ref l] []) rfl]
  have h1 := F.called_set.notType
  have h2 := F.called_set.canCreate
  have hct := F.typeCall_set_1 (.ref l)
  repeat (any_goals (first | assumption | wp_step))
  refine codeAny_mono (code_set_led1 (.ref l) (E := E) (Q₁ := fun obj s₁ => obj = .ref s.heap.objs.size ∧ s₁ = { s with heap := s.heap.push { cls := .type "set", dict := none, data := .set #[] 0 (.fresh 0 0 (!w.params.followText "set-order")) } }) ⟨rfl, rfl⟩) fun r s₁ hr => ?_
  cases r with
  | error e => exact hr
  | ok fl =>
    cases fl with
    | ret obj =>
      obtain ⟨rfl, rfl⟩ := hr
      have hS : (s.heap.push { cls := .type "set", dict := none, data := .set #[] 0 (.fresh 0 0 (!w.params.followText "set-order")) }).get? s.heap.objs.size = some { cls := .type "set", dict := none, data := .set #[] 0 (.fresh 0 0 (!w.params.followText "set-order")) } := Heap.get?_push_size _ rfl
      have hT : Shared.TypeIs { s with heap := s.heap.push { cls := .type "set", dict := none, data := .set #[] 0 (.fresh 0 0 (!w.params.followText "set-order")) } } (.ref s.heap.objs.size) "set" := ⟨_, hS, rfl⟩
      have hli := F.called_set.init.lookup
      have hbi := F.called_set.init.bind (.ref s.heap.objs.size)
      repeat (any_goals (first | assumption | wp_step))
      refine codeAny_mono (codeAny_call_builtin (R := wants (fun r s₂ => r = .none ∧ ∃ h' tk L, s₂ = { s with heap := h', toks := tk } ∧ SetS w h' s.heap.objs.size L ks.length ∧ (∀ x, x ∈ L ↔ x ∈ ks) ∧
          (∀ b o, b < s.heap.objs.size → s.heap.get? b = some o → h'.get? b = some o)) E) F.called_set.init.plain F.entry_set_init (check_set_init_1 hT ?_)) fun r₂ s₂ hr₂ => ?_
      · obtain ⟨ol, hol, hcl, nl, hdl⟩ := hl
        obtain ⟨ocls, odict, odata, oslots⟩ := ol
        simp only at hcl hdl
        subst hcl; subst hdl
        have hol' : (s.heap.push { cls := .type "set", dict := none, data := .set #[] 0 (.fresh 0 0 (!w.params.followText "set-order")) }).get? l = some { cls := .type "list", dict := odict, data := .seq items nl, slots := oslots } := Heap.get?_push_of_some _ hol
        have hsls := F.sub_list_set
        have hslf := F.sub_list_frozenset
        have hne : (Value.type "list" == Value.type "dict") = false := by decide
        have hl1 : (s.heap.push { cls := .type "set", dict := none, data := .set #[] 0 (.fresh 0 0 (!w.params.followText "set-order")) }).IsList l items := ⟨_, hol', rfl, nl, rfl⟩
        unfold Builtin.«set.__init__» noKeywords Builtin.Frozenset.updateFrom
        generalize hPI : pyIter = PI
        wp_walk
        subst hPI
        refine wpAny_pyIter_list hl1 ?_
        refine wpAny_bind (wpAny_runValue ?_)
        have hlS : l < s.heap.objs.size := Heap.lt_size hol
        have hh3 : A.in1.in1.in1.handled = none := by simp [hh]
        have hneI : l ≠ (s.heap.push { cls := .type "set", dict := none, data := .set #[] 0 (.fresh 0 0 (!w.params.followText "set-order")) }).objs.size := by
          rw [Heap.size_push]; exact Nat.ne_of_lt (Nat.lt_succ_of_lt hlS)
        have hSf : s.heap.objs.size ∉ [(s.heap.push { cls := .type "set", dict := none, data := .set #[] 0 (.fresh 0 0 (!w.params.followText "set-order")) }).objs.size, l] := by
          rw [Heap.size_push]; simp only [List.mem_cons, List.mem_singleton, List.not_mem_nil, or_false, not_or]
          exact ⟨Nat.ne_of_lt (Nat.lt_succ_self _), Nat.ne_of_gt hlS⟩
        have hval : ∀ (i : Nat) (v : Value), items[i]? = some v → ∃ p tk, ks[i]? = some p ∧ v = .str p tk := fun i v hv => by
          have hi : i < ks.length := by rw [← hisz]; exact (Array.getElem?_eq_some_iff.mp hv).1
          obtain ⟨t, e⟩ := SS.strs_at hit i v (by rw [Array.getElem?_toList]; exact hv)
          exact ⟨ks[i], t, List.getElem?_eq_getElem hi, by rw [e]; simp [List.getD, List.getElem?_eq_getElem hi]⟩
        refine set_update_txts ((Walks.list hh3 _ l hneI items).toS) s.heap.objs.size
          hSf ks hisz hfew hval (items.size - 0) 0 _ (by omega) (Nat.zero_le _)
          ⟨⟨_, Heap.get?_push_size _ rfl, rfl, rfl⟩, (hl1.push _)⟩ ?hS0 ?hR
        case hS0 =>
          have hget : ((s.heap.push { cls := .type "set", dict := none, data := .set #[] 0 (.fresh 0 0 (!w.params.followText "set-order")) }).push { cls := .type "list_iterator", data := .fields #[.ref l, .int 0 0] }).get? s.heap.objs.size
              = some { cls := .type "set", dict := none, data := .set #[] 0 (.fresh 0 0 (!w.params.followText "set-order")) } := Heap.get?_push_of_some _ hS
          exact ⟨[], setS_fresh hget, fun x => by simp⟩
        case hR =>
          intro s' L hm hS' g'
          obtain ⟨h', g2, d', tk', os'⟩ := s'
          have eg : g2 = s.gens := hm.gens
          have ed : d' = s.drawn := hm.drawn
          have eo : os' = s.os := hm.os
          subst eg; subst ed; subst eo
          show wpAny _ _ _ _ _ _
          refine wpAny_pure ?_
          show wpAny _ _ (ret Value.none) _ _ _
          rw [hisz] at hS'
          refine wpAny_pure ⟨rfl, h', tk', L, rfl, hS', g', fun b o hb e => ?_⟩
          refine hm.heap b o ?_ (Heap.get?_push_of_some _ (Heap.get?_push_of_some _ e))
          rw [Heap.size_push]
          simp only [List.mem_cons, List.mem_singleton, List.not_mem_nil, or_false, not_or]
          exact ⟨Nat.ne_of_lt hb, Nat.ne_of_lt (Nat.lt_succ_of_lt hb)⟩
      · cases r₂ with
        | error e => exact hr₂
        | ok fl₂ =>
          cases fl₂ with
          | ret r =>
            obtain ⟨rfl, h', tk, L, rfl, hS', g', hk'⟩ := hr₂
            repeat (any_goals (first | assumption | wp_step))
            exact h _ _ _ hS' g' hk'
          | _ => exact hr₂.elim
    | _ => exact hr.elim
theorem strsAre_keys : ∀ {vs : List Value}, (∀ v ∈ vs, ∃ k tk, v = Value.str k tk) → StrsAre vs (vs.map fun v => sKey (0, v))
  | [], _ => .nil
  | v :: vs, h => by
    obtain ⟨k, tk, rfl⟩ := h v List.mem_cons_self
    exact .cons k tk (strsAre_keys fun u hu => h u (List.mem_cons_of_mem _ hu))
/-- sorted(set) -/
theorem sorted_setS {Q : Value → Shared → Prop} (R : SetS w s.heap a l n) (hh : A.handled = none) (h64 : n < 64)
    (hQ : ∀ s' p (out : Array Value) (c : Nat) (ys : List Str), (∀ b o, s.heap.get? b = some o → s'.heap.get? b = some o) → s'.gens = s.gens → s'.os = s.os → s.heap.objs.size ≤ p →
      s'.heap.get? p = some (seqObj "list" out c) → StrsAre out.toList ys → (∀ k, k ∈ ys ↔ k ∈ l) → ys.length ≤ n → Q (.ref p) s') :
    wpAny (model P w) A (call (.builtin "sorted") [.ref a]) Q E s := by
  obtain ⟨o, es, ep, t, ho, hex, hd, g, hm, hn, hf, hr, hl⟩ := R
  refine Calls.call_function_entry kind_sorted plain_sorted entry_sorted (args_sorted1 _) ?_
  unfold Builtin.«sorted»
  refine wpAny_bind (m := checkCount "sorted" 1 1 _) (wpAny_pure ?_)
  refine wpAny_bind (collect_set (A := A.in1) hh ⟨o, ho, hex.1, hd⟩ hf (by unfold scanBound; omega) hr hl fun s1 vs k1 hz g1 o1 pm => ?_)
  have hvl : vs.length ≤ n := by rw [pm.length_eq, List.length_map, Array.length_toList]; exact hn
  have hS : StrsAre vs (vs.map fun v => sKey (0, v)) := strsAre_keys fun v hv => by
    obtain ⟨e, he, q⟩ := List.mem_map.mp (pm.mem_iff.mp hv)
    obtain ⟨k, tk, h1, _⟩ := g e he
    exact ⟨k, tk, by rw [← q]; exact h1⟩
  have pk : (vs.map fun v => sKey (0, v)).Perm (es.toList.map sKey) := by
    have q := pm.map fun v => sKey (0, v)
    rw [List.map_map] at q
    exact q
  refine wpAny_bind (wpAny_newList ?_ (by rw [sizeLine_eq]; omega))
  have hoL : (s1.heap.push (seqObj "list" vs.toArray 0)).get? s1.heap.objs.size = some (seqObj "list" vs.toArray 0) := Heap.get?_push_size _ rfl
  refine wpAny_bind (wpAny_holding (wpAny_call_entry slot_list_sort ⟨_, hoL, rfl⟩ entry_list_sort
    (list_sort_treeK strKind_oneLt hoL hS.keysOf (fun v₁ v₂ rest e => keyKind_strs (by rw [← e]; exact hS)) (by omega) fun st' hp hs => ⟨_, rfl, ?_⟩) (args_list_sort _)))
  obtain ⟨ys, y1, y2, y3⟩ := sorted_out_str hS hp hs
  obtain ⟨c, hc⟩ := sortedHeap_at (vs := vs) (out := (arrOf st').map (·.2)) hoL
  have pn : ys.Perm (es.toList.map sKey) := y2.trans pk
  refine wpAny_pure ⟨_, rfl, hQ _ s1.heap.objs.size ((arrOf st').map (·.2)) c ys (fun b u e => ?_) g1 o1 hz hc y1 (fun k => by rw [pn.mem_iff, ← hm k]) ?_⟩
  · have q := k1 b u e
    have hlt := Heap.lt_size q
    show (sortedHeap (s1.heap.push (seqObj "list" vs.toArray 0)) s1.heap.objs.size vs ((arrOf st').map (·.2))).get? b = some u
    rw [sortedHeap_old (Nat.ne_of_lt hlt) (by rw [size_push']; exact Nat.lt_succ_of_lt hlt)]
    exact Heap.get?_push_of_some _ q
  · rw [pn.length_eq, List.length_map, Array.length_toList]; exact hn
end
/-- the set of texts at a -/
def SetTx (w : World) (a : Addr) (l : List Str) (n : Nat) : HO := .ext fun h => SetS w h a l n
section
variable {X : Cx}
theorem setTx_new {w : World} {P : Program} {H : Hp} {h : Heap} {a : Addr} {l : List Str} {n : Nat} (R : SetS w h a l n) : ObjOk P w H h a (SetTx w a l n) := by
  have ⟨o, _, _, _, ho, _⟩ := R
  exact ⟨R, ⟨o, ho⟩, fun h1 h2 p k => SetS.at p k⟩
/-- set(xs), xs a list of fewer than 64 texts -/
def rSetTx (K : PySem.W.Frag) (w : World) : List V → Hp → VK → Prop := fun xs H Q => ∃ (l : Addr) (ks : List Str), xs = [V.ref l] ∧ SqL K H l (ks.map V.str) ∧ ks.length < 64 ∧
  ∀ a L, H a = none → (∀ x, x ∈ L ↔ x ∈ ks) → Q (.ref a) (upd H a (SetTx w a L ks.length))
theorem cr_setSt (hc : X.calm = true) : CallR X (.type "set") (rSetTx X.K X.w) := by
  intro pins s σ H xs us Q I r h
  obtain ⟨l, ks, rfl, hl, hf, q⟩ := h
  rw [Vals.ref1 r]
  obtain ⟨its, rv, pl, hz⟩ := I.list hl
  have hn : H s.heap.objs.size = none := I.hok.fresh (Nat.le_refl _)
  refine call_set_txts (P := X.prog) (w := X.w) ks (I.ok.hd hc) pl.isList (by simpa using rv.strs) hf fun h' tk L R g k => ?_
  exact ⟨.ref s.heap.objs.size, upd H s.heap.objs.size (SetTx X.w s.heap.objs.size L ks.length), I.laid (t' := tk) (fun b o e => k b o (Heap.lt_size e) e) (Nat.le_refl _) (setTx_new R), rfl, q _ L hn g⟩
/-- sorted(found) -/
def rSortTx (w : World) : List V → Hp → VK → Prop := fun vs H Q => ∃ (a : Addr) (l : List Str) (n : Nat), vs = [V.ref a] ∧ H a = some (SetTx w a l n) ∧ n < 64 ∧
  ∀ (ys : List Str) (p : Addr), (∀ k, k ∈ ys ↔ k ∈ l) → ys.length ≤ n → H p = none → Q (.ref p) (upd H p (.lst (ys.map V.str)))
theorem cr_sortedSt (hc : X.calm = true) : CallR X (.builtin "sorted") (rSortTx X.w) := by
  intro pins s σ H vs us Q I r h
  obtain ⟨a, l, n, rfl, ha, h64, q⟩ := h
  have R : SetS X.w s.heap a l n := (I.hok a _ ha).1
  rw [Vals.ref1 r]
  refine sorted_setS R (I.ok.hd hc) h64 fun s' p out c ys k g o hp hg hi hm hl => ?_
  have hlen : (ys.map V.str).length ≤ sizeLine := by rw [List.length_map, sizeLine_eq]; omega
  have hn : H p = none := I.hok.fresh hp
  have J : Inv X pins σ (upd H p (.lst (ys.map V.str))) { s with heap := s'.heap, gens := s'.gens, drawn := s'.drawn, toks := s'.toks } :=
    I.call (ch := []) (Un.laid k hp hn) (I.hok.laid k hp ⟨hlen, out.toList, c, vals_of_strs hi, by rw [Array.toArray_toList]; exact hg⟩) (by rw [g]; exact I.bare) (fun _ z => nomatch z)
  have e : s' = { s with heap := s'.heap, gens := s'.gens, drawn := s'.drawn, toks := s'.toks } := by
    cases s'
    cases s
    cases o
    rfl
  rw [e]
  exact ⟨.ref p, _, J, rfl, q ys p hm hl hn⟩
end
end K85
set_option maxRecDepth 100000
set_option maxHeartbeats 1000000
/-! Symbolic rules: sorted sets of texts, views, classes. -/
namespace K85
open PySem L2
section
variable {L : Lk} {Γ Γ' : Gm} {M M' : Mm} {ta tb tc te tv td ty tx : TE} {t u : TT} {P : Dt → Mm → Prop} {r r' : R2} {K : PySem.W.Frag} {d : Dt} {tr : TA} {g : TG} {vs : List Nat} {wi : TI} {Es' : Es} {S : FS} {E : XK} {C : Addr} {m : Str}
theorem SV.newX {H0 H : Hp} {p : Addr} {o : HO} (s : SV L M H0 H) (h : H p = none) : SV L M H0 (upd H p o) := by
  refine ⟨fun b w e => ?_, s.lkd, fun b w e => ?_⟩
  · have hb : b ≠ p := by
      rintro rfl
      rw [s.fresh0 h] at e; cases e
    rw [upd_ne hb]
    exact s.per b w e
  · obtain ⟨e0, w', e', r⟩ := s.own b w e
    have hb : b ≠ p := ne_of_none e' h
    exact ⟨e0, w', by rw [upd_ne hb]; exact e', r⟩
theorem e_sortSet {w : World} (h : EvA L Γ M tr fun ds M1 => ∃ x ks, ds = [x] ∧ vw M1 x = .lst (dStrs ks) ∧ ks.length < 64 ∧ ∀ ys : List Str, (∀ k, k ∈ ys ↔ k ∈ ks) → ys.length ≤ ks.length → P (.lst (dStrs ys)) M1) :
    Ev L Γ M (tCB (rSortTx w) (tCons (tCB (rSetTx K w) tr) tNil)) P := fun σ H0 H Q s g q =>
  h σ H0 H _ s g fun vs ds M1 H1 H1' e1 s1 rs p => by
    obtain ⟨x, ks, rfl, hx, hl, p⟩ := p
    obtain ⟨v, rfl, r1⟩ := one_rep rs
    obtain ⟨a, xs, rfl, ha, hr⟩ := s1.lst r1 hx
    rw [repL_strs hr] at ha
    refine ⟨a, ks, rfl, SqL.of ha, hl, fun b l hb hm => ?_⟩
    have s2 := s1.newX (o := SetTx w b l ks.length) hb
    refine ⟨b, l, ks.length, rfl, upd_same, hl, fun ys c h1 h2 hc => ?_⟩
    have h0 := s2.fresh0 hc
    refine q _ (.lst (dStrs ys)) M1 _ _ (e1.trans (same_new h0)) (s2.newP hc) ?_ (p ys (fun k => (h1 k).trans (hm k)) h2)
    unfold Rep
    exact ⟨c, _, rfl, upd_same, repL_of_strs ys⟩
/-- another view, a value along -/
def VwD (L : Lk) (M : Mm) (d : Dt) (M' : Mm) (d' : Dt) : Prop := ∀ H0 H v, SV L M H0 H → Rep H0 d v → ∃ H1, Same H0 H1 ∧ SV L M' H1 H ∧ Rep H1 d' v
theorem Ev.post (h : Ev L Γ M te fun d M1 => ∃ d' M2, VwD L M1 d M2 d' ∧ P d' M2) : Ev L Γ M te P := fun σ H0 H Q s g q =>
  h σ H0 H _ s g fun v d M1 H1 H1' e s1 rr p => by
    obtain ⟨d', M2, vv, p⟩ := p
    obtain ⟨H2, e2, s2, r2⟩ := vv H1 H1' v s1 rr
    exact q v d' M2 H2 H1' (e.trans e2) s2 r2 p
def VwM (L : Lk) (M M' : Mm) : Prop := ∀ H0 H, SV L M H0 H → ∃ H1, Same H0 H1 ∧ SV L M' H1 H
theorem VwM.refl : VwM L M M := fun H0 H s => ⟨H0, Same.refl _, s⟩
theorem VwM.trans {M2 : Mm} (a : VwM L M M') (b : VwM L M' M2) : VwM L M M2 := fun H0 H s => by
  obtain ⟨H1, e1, s1⟩ := a H0 H s
  obtain ⟨H2, e2, s2⟩ := b H1 H s1
  exact ⟨H2, e1.trans e2, s2⟩
theorem VwM.vw (a : VwM L M M') : Vw L Γ M Γ M' := fun σ H0 H s g => by
  obtain ⟨H1, e1, s1⟩ := a H0 H s
  exact ⟨H1, e1, s1, g.up e1⟩
theorem VwM.val (a : VwM L M M') : VwD L M d M' d := fun H0 H v s r => by
  obtain ⟨H1, e1, s1⟩ := a H0 H s
  exact ⟨H1, e1, s1, r.up e1⟩
theorem VwD.frz {a : Addr} (h : M a = some d) : VwD L M (.adr a) (mdel M a) d := fun H0 H v s r => by
  obtain ⟨H1, e1, s1, r1⟩ := s.frz h
  unfold Rep at r
  subst r
  exact ⟨H1, e1, s1, r1⟩
/-- the end in another view -/
theorem Run.post {ts : TS} (h : Run L Γ M ts { nx := fun Γ' M1 => ∃ M2, VwM L M1 M2 ∧ Es'.nx Γ' M2, rt := fun d M1 => ∃ d' M2, VwD L M1 d M2 d' ∧ Es'.rt d' M2, bk := Es'.bk, ct := Es'.ct }) : Run L Γ M ts Es' := fun σ H0 H D s g o =>
  h σ H0 H D s g ⟨fun Γ' M' σ' H0' H' e s' g' p => by
    obtain ⟨M2, v, p⟩ := p
    obtain ⟨H1, e1, s1⟩ := v H0' H' s'
    exact o.nx Γ' M2 σ' H1 H' (e.trans e1) s1 (g'.up e1) p, fun v d M' H0' H' e s' rr p => by
    obtain ⟨d', M2, vv, p⟩ := p
    obtain ⟨H2, e2, s2, r2⟩ := vv H0' H' v s' rr
    exact o.rt v d' M2 H2 H' (e.trans e2) s2 r2 p, fun _ _ _ _ _ e s' g' p => o.bk _ _ _ _ _ e s' g' p, fun _ _ _ _ _ e s' g' p => o.ct _ _ _ _ _ e s' g' p⟩
/-- an own object's field that is an own dict or list becomes data -/
theorem repF_reput {H : Hp} {f : Str} {t : Addr} {d : Dt} (hd : Rep H d (.ref t)) : ∀ {fs : List (Str × Dt)} {ws : List (Str × V)}, RepF H fs ws → fs.lookup f = some (.adr t) → RepF H (putD f d fs) ws
  | [], _, _, e => by cases e
  | (k, x) :: fs, _, h, q => by
    unfold RepF at h
    obtain ⟨y, r, rfl, h1, h2⟩ := h
    unfold putD
    by_cases hk : k = f
    · subst hk
      rw [List.lookup_cons, beq_self_eq_true] at q
      cases q
      rw [if_pos rfl]
      unfold Rep at h1
      subst h1
      unfold RepF
      exact ⟨_, r, rfl, hd, h2⟩
    · rw [if_neg hk]
      rw [List.lookup_cons, beq_eq_false_iff_ne.mpr (Ne.symm hk)] at q
      unfold RepF
      exact ⟨y, r, rfl, h1, repF_reput hd h2 q⟩
theorem VwM.fld {x t : Addr} {f : Str} {fs : List (Str × Dt)} (hx : M x = some (.ins C fs)) (hf : fs.lookup f = some (.adr t)) (ht : M t = some d) (hne : t ≠ x) : VwM L M (mset (mdel M t) x (.ins C (putD f d fs))) := fun H0 H s => by
  obtain ⟨H1, e1, s1, r1⟩ := s.frz ht
  refine ⟨H1, e1, s1.per, s1.lkd, fun b w e => ?_⟩
  by_cases hb : b = x
  · subst hb
    rw [mset_same] at e
    cases e
    obtain ⟨h0, u, hu, dx, ws, rfl, hw⟩ := s1.own b (.ins C fs) (by rw [mdel_ne (Ne.symm hne)]; exact hx)
    exact ⟨h0, _, hu, dx, ws, rfl, repF_reput r1 hw hf⟩
  · rw [mset_ne hb] at e
    exact s1.own b w e
/-- an own dict's value that is an own object becomes data -/
theorem repT_reput {H : Hp} {ks : List Str} {t : Addr} {d : Dt} (hd : Rep H d (.ref t)) : ∀ {kvs : List (List Str × Dt)} {ws : List (List Key × V)}, RepT H (kvs ++ [(ks, .adr t)]) ws → RepT H (kvs ++ [(ks, d)]) ws
  | [], _, h => by
    rw [List.nil_append] at h ⊢
    unfold RepT at h ⊢
    obtain ⟨x, r, rfl, h1, h2⟩ := h
    unfold Rep at h1
    subst h1
    exact ⟨_, r, rfl, hd, h2⟩
  | (k, x) :: kvs, _, h => by
    rw [List.cons_append] at h ⊢
    unfold RepT at h ⊢
    obtain ⟨y, r, rfl, h1, h2⟩ := h
    exact ⟨y, r, rfl, h1, repT_reput hd h2⟩
theorem VwM.last {x t : Addr} {ks : List Str} {kvs : List (List Str × Dt)} (hx : M x = some (.dT (kvs ++ [(ks, .adr t)]))) (ht : M t = some d) (hne : t ≠ x) : VwM L M (mset (mdel M t) x (.dT (kvs ++ [(ks, d)]))) := fun H0 H s => by
  obtain ⟨H1, e1, s1, r1⟩ := s.frz ht
  refine ⟨H1, e1, s1.per, s1.lkd, fun b w e => ?_⟩
  by_cases hb : b = x
  · subst hb
    rw [mset_same] at e
    cases e
    obtain ⟨h0, u, hu, ws, rfl, hw⟩ := s1.own b (.dT (kvs ++ [(ks, .adr t)])) (by rw [mdel_ne (Ne.symm hne)]; exact hx)
    exact ⟨h0, _, hu, ws, rfl, repT_reput r1 hw⟩
  · rw [mset_ne hb] at e
    exact s1.own b w e
theorem VwM.less (h : ∀ b d, M' b = some d → M b = some d) : VwM L M M' := fun H0 H s => ⟨H0, Same.refl _, s.less h⟩
/-- isinstance of an own class -/
theorem c_isC {x : Dt} (hx : ∃ fs, vw M x = .ins C fs) (k : P (.b true) M) : Cb L M (fun xs H Q => ∃ a dx fs, xs = [.ref a, .ref C] ∧ H a = some (.ins C dx fs) ∧ Q (.bl true) H) [x, .adr C] P := fun H0 H vs Q s rs q => by
  obtain ⟨fs, hx⟩ := hx
  unfold RepL at rs
  obtain ⟨y, r, rfl, r1, rs⟩ := rs
  obtain ⟨z, rfl, r2⟩ := one_rep rs
  unfold Rep at r2
  subst r2
  obtain ⟨a, dx, ws, rfl, ha, _⟩ := s.ins r1 hx
  exact ⟨a, dx, ws, rfl, ha, q _ (.b true) M H0 H (Same.refl _) s (by unfold Rep; rfl) k⟩
/-- an __init__ that lays fields from data -/
def initS (C : Addr) (β : Type) (args : β → List Dt) (ok : β → Lk → Prop) (flds : β → List (Str × Dt)) : FS :=
  ⟨Addr × β, fun a ds L M => ds = .adr a.1 :: args a.2 ∧ M a.1 = some (.ins C []) ∧ ok a.2 L, fun a M d M' => d = .non ∧ M' = mset M a.1 (.ins C (flds a.2))⟩
theorem e_init {β : Type} {args : β → List Dt} {ok : β → Lk → Prop} {flds : β → List (Str × Dt)} {dvs : List V} {dds : List Dt} (hd : ∀ H, RepL H dds dvs) (h : EvA L Γ M tr fun ds M1 => ∃ b, ds ++ dds = args b ∧ ok b L ∧ P (.ins C (flds b)) M1) : Ev L Γ M (tMake C (initS C β args ok flds).sp dvs E tr) P :=
  e_frz (e_make hd fun σ H0 H Q s g q => h σ H0 H Q s g fun vs ds M' H0' H' e s' rs p => q vs ds M' H0' H' e s' rs fun x hx => by
    obtain ⟨b, h1, h2, h3⟩ := p
    refine ⟨(x, b), ⟨by rw [h1], mset_same, h2⟩, ?_⟩
    rintro d M2 ⟨rfl, rfl⟩
    refine ⟨rfl, x, _, rfl, mset_same, ?_⟩
    show P _ (mdel (mset (mset M' x _) x _) x)
    rw [mset_mset, mdel_mset hx]
    exact h3)
/-- a statement up to an assertion -/
theorem r_seqI {ts us : TS} (I : Gm → Mm → Prop) (h : Run L Γ M ts { Es' with nx := I }) (k : ∀ Γ' M', I Γ' M' → Run L Γ' M' us Es') : Run L Γ M (tSeq ts us) Es' :=
  r_seq (h.mono (fun Γ' M' i => k Γ' M' i) (fun _ _ p => p) (fun _ _ p => p) (fun _ _ p => p))
end
end K85
set_option maxRecDepth 100000
set_option maxHeartbeats 1000000
/-! Symbolic rules: dicts as lists, == of flat dicts, == and in for plain data. -/
namespace K85
open PySem L2
section
variable {L : Lk} {Γ Γ' : Gm} {M M' : Mm} {ta tb tc te tv td ty tx : TE} {t u : TT} {P : Dt → Mm → Prop} {r r' : R2} {K : PySem.W.Frag} {d : Dt} {tr : TA} {g : TG} {vs : List Nat} {wi : TI} {Es' : Es} {S : FS} {E : XK} {C : Addr} {m : Str}
/-- no lock stands on x -/
def Unl (L : Lk) (M : Mm) (x : Dt) : Prop := ∀ H0 H a, SV L M H0 H → Rep H0 x (.ref a) → L a = none
theorem unl_own {a : Addr} {d : Dt} (h : M a = some d) : Unl L M (.adr a) := fun H0 H b s r => by
  unfold Rep at r
  cases r
  obtain ⟨h0, _⟩ := s.own a d h
  exact s.freshL h0
/-- no dict of plain values is locked -/
def NoFlat (L : Lk) : Prop := ∀ a o, L a = some o → o.2 = true
theorem noflat0 (h : ∀ a, L a = none) : NoFlat L := fun a o e => by rw [h a] at e; cases e
theorem noflat_set {a : Addr} {od : Obj} (h : NoFlat L) : NoFlat (lset L a (od, true)) := fun b o e => by
  by_cases hb : b = a
  · subst hb
    rw [lset_same] at e
    cases e
    rfl
  · rw [lset_ne hb] at e
    exact h b o e
theorem repK_flat {H : Hp} {k : Key} {p : Addr} : ∀ {kvs : List (Str × Dt)} {ws : List (Key × V)}, RepK H kvs ws → (∀ kv ∈ kvs, (fV kv.2).isSome = true) → (k, V.ref p) ∈ ws → False
  | [], _, h, _, e => by
    unfold RepK at h
    subst h
    simp at e
  | (k', d) :: kvs, _, h, f, e => by
    unfold RepK at h
    obtain ⟨x, r, rfl, h1, h2⟩ := h
    rcases List.mem_cons.mp e with q | q
    · have hx : x = V.ref p := (congrArg Prod.snd q).symm
      subst hx
      have := f _ List.mem_cons_self
      cases hf : fV d with
      | none =>
        simp only at this
        rw [hf] at this
        cases this
      | some v =>
        have := fV_rep hf h1
        subst this
        cases d <;> cases hf
    · exact repK_flat h2 (fun kv hkv => f kv (List.mem_cons_of_mem _ hkv)) q
theorem unl_flat {kvs : List (Str × Dt)} (hL : NoFlat L) (f : ∀ kv ∈ kvs, (fV kv.2).isSome = true) : Unl L M (.dK kvs) := fun H0 H a s r => by
  cases q : L a with
  | none => rfl
  | some o =>
    obtain ⟨u, hu, _, h2⟩ := s.lkd a o q
    obtain ⟨ws, rfl, k, p, hp⟩ := h2 (hL a o q)
    unfold Rep at r
    obtain ⟨b, ws', e, h0, hr⟩ := r
    cases e
    rw [hu] at h0
    cases h0
    exact (repK_flat hr f hp).elim
theorem c_listK {x : Dt} {kvs : List (Str × Dt)} (hx : x = .dK kvs) (hL : Unl L M x) (k : P (.lst (dStrs (kvs.map (·.1)))) M) : Cb L M rListD [x] P := fun H0 H vs Q s rs q => by
  subst hx
  obtain ⟨v, rfl, r1⟩ := one_rep rs
  obtain ⟨a, ws, rfl, _, hr, hh⟩ := s.dK r1 rfl
  refine ⟨a, ws, rfl, hh (hL H0 H a s r1), fun p hp => ?_⟩
  have h0 := s.fresh0 hp
  refine q _ (.lst (dStrs (kvs.map (·.1)))) M _ _ (same_new h0) (s.newP hp) ?_ k
  unfold Rep
  have e : ∀ {kvs : List (Str × Dt)} {ws : List (Key × V)}, RepK H0 kvs ws → ws.map (fun kv => kV kv.1) = (kvs.map (·.1)).map V.str := by
    intro kvs
    induction kvs with
    | nil =>
      intro ws h
      unfold RepK at h
      subst h
      rfl
    | cons kv kvs ih =>
      intro ws h
      obtain ⟨k, d⟩ := kv
      unfold RepK at h
      obtain ⟨x, r, rfl, h1, h2⟩ := h
      rw [List.map_cons, List.map_cons, List.map_cons, ih h2]
      rfl
  exact ⟨p, _, rfl, upd_same, by rw [e hr]; exact repL_of_strs _⟩
/-- == of dicts with the same plain pairs -/
theorem o_eqDict {x y : Dt} {kvs : List (Str × Dt)} (hx : x = .dK kvs) (hy : y = .dK kvs) (hL : NoFlat L) (f : ∀ kv ∈ kvs, ∃ v, fV kv.2 = some v ∧ flatB v = true) (hn : (kvs.map (·.1)).Nodup) (k : P (.b true) M) : Op L M rEqDA x y P := fun H0 H v w Q s rx ry q => by
  subst hx hy
  have hf : ∀ kv ∈ kvs, (fV kv.2).isSome = true := fun kv hkv => by
    obtain ⟨v, e, _⟩ := f kv hkv
    rw [e]
    rfl
  obtain ⟨a, ws, rfl, _, hr, hh⟩ := s.dK rx rfl
  obtain ⟨b, zs, rfl, _, hr', hh'⟩ := s.dK ry rfl
  refine ⟨a, b, ws, zs, rfl, rfl, hh (unl_flat hL hf H0 H a s rx), hh' (unl_flat hL hf H0 H b s ry), by rw [repK_len hr, repK_len hr'], fun p hp => ?_, q _ (.b true) M H0 H (Same.refl _) s (by unfold Rep; rfl) k⟩
  have key : ∀ {kvs : List (Str × Dt)} {ws zs : List (Key × V)}, RepK H0 kvs ws → RepK H0 kvs zs → (∀ kv ∈ kvs, ∃ v, fV kv.2 = some v ∧ flatB v = true) → (kvs.map (·.1)).Nodup → ∀ p ∈ ws, (∃ x, p.1 = .inr x ∧ x ∈ kvs.map (·.1)) ∧ valV zs p.1 = some p.2 ∧ flatB p.2 = true := by
    intro kvs
    induction kvs with
    | nil =>
      intro ws zs h _ _ _ p hp
      unfold RepK at h
      subst h
      simp at hp
    | cons kv kvs ih =>
      intro ws zs h h' f hn p hp
      obtain ⟨k, d⟩ := kv
      unfold RepK at h h'
      obtain ⟨x, r, rfl, h1, h2⟩ := h
      obtain ⟨y, r', rfl, h3, h4⟩ := h'
      obtain ⟨v, e, fb⟩ := f _ List.mem_cons_self
      cases fV_rep e h1
      cases fV_rep e h3
      rcases List.mem_cons.mp hp with rfl | hp
      · exact ⟨⟨k, rfl, List.mem_cons_self⟩, valV_pos rfl, fb⟩
      · have n2 := List.nodup_cons.mp hn
        obtain ⟨⟨z, e1, e2⟩, e3, e4⟩ := ih h2 h4 (fun kv hkv => f kv (List.mem_cons_of_mem _ hkv)) n2.2 p hp
        refine ⟨⟨z, e1, List.mem_cons_of_mem _ e2⟩, ?_, e4⟩
        rw [valV_neg]
        · exact e3
        · rw [e1]
          intro q
          exact n2.1 (Sum.inr.inj q ▸ e2)
  exact (key hr hr' f hn p hp).2

/-! plain data, as the library's -/
def pdS (x : Str) : PyData := .str x
def pdSs (xs : List Str) : List PyData := xs.map .str
theorem dpAll_strs {H : Hp} : ∀ xs : List Str, DpAll K H (xs.map V.str) (pdSs xs)
  | [] => .nil
  | x :: xs => .cons (.str x) (dpAll_strs xs)
theorem eqvAll_strs : ∀ xs ys : List Str, PyData.eqvAll (pdSs xs) (pdSs ys) = decide (xs = ys)
  | [], [] => rfl
  | [], _ :: _ => rfl
  | _ :: _, [] => rfl
  | x :: xs, y :: ys => by
    have ih := eqvAll_strs xs ys
    show (PyData.eqv (.str x) (.str y) && PyData.eqvAll (pdSs xs) (pdSs ys)) = _
    rw [ih]
    show ((x == y) && _) = _
    by_cases h : x = y
    · subst h
      by_cases h2 : xs = ys
      · subst h2; simp
      · simp [h2]
    · simp [h]
theorem lay_strs : ∀ {xs : List Str}, (∀ x ∈ xs, PyData.strOk x = true) → PyData.canLayAll0 (pdSs xs) = true
  | [], _ => by unfold pdSs; rfl
  | x :: xs, h => by
    have h1 := h x List.mem_cons_self
    have h2 := lay_strs (xs := xs) fun y hy => h y (List.mem_cons_of_mem _ hy)
    show PyData.canLayAll0 (.str x :: pdSs xs) = true
    simp only [PyData.canLayAll0, PyData.canLay0, h1, h2]
    rfl
theorem depth_strs : ∀ xs : List Str, PyData.depthAll (pdSs xs) = 0
  | [] => rfl
  | x :: xs => by
    show max (PyData.depth (.str x)) (PyData.depthAll (pdSs xs)) = 0
    rw [depth_strs xs]
    rfl
theorem shaped_list {xs : List Str} (h : ∀ x ∈ xs, PyData.strOk x = true) : SeqAt.shaped (.list (pdSs xs)) = true := by
  unfold SeqAt.shaped
  have e : PyData.depth (.list (pdSs xs)) = 1 := by show PyData.depthAll (pdSs xs) + 1 = 1; rw [depth_strs]
  rw [e]
  show (PyData.canLayAll0 (pdSs xs) && decide (1 ≤ 64)) = true
  rw [lay_strs h]
  rfl
theorem shaped_tup {xs : List Str} (h : ∀ x ∈ xs, PyData.strOk x = true) : SeqAt.shaped (.tuple (pdSs xs)) = true := by
  unfold SeqAt.shaped
  have e : PyData.depth (.tuple (pdSs xs)) = 1 := by show PyData.depthAll (pdSs xs) + 1 = 1; rw [depth_strs]
  rw [e]
  show (PyData.canLayAll0 (pdSs xs) && decide (1 ≤ 64)) = true
  rw [lay_strs h]
  rfl
theorem dp_lst {H0 H : Hp} {x : Dt} {v : V} {xs : List Str} (s : SV L M H0 H) (r : Rep H0 x v) (h : vw M x = .lst (dStrs xs)) : Dp K H v (.list (pdSs xs)) := by
  obtain ⟨a, vs, rfl, ha, hr⟩ := s.lst r h
  rw [repL_strs hr] at ha
  exact .lst (SqL.of ha) (dpAll_strs xs)
theorem dp_tup {H0 H : Hp} {v : V} {xs : List Str} (s : SV L M H0 H) (r : Rep H0 (.tup (dStrs xs)) v) : Dp K H v (.tuple (pdSs xs)) := by
  obtain ⟨a, vs, rfl, _, ha, hr⟩ := s.tup r rfl
  rw [repL_strs hr] at ha
  exact .tup (SqT.of ha) (dpAll_strs xs)
def dSts (l : List (List Str)) : List Dt := l.map fun s => .tup (dStrs s)
def pdSts (l : List (List Str)) : List PyData := l.map fun s => .tuple (pdSs s)
theorem dpAll_sts {H0 H : Hp} (s : SV L M H0 H) : ∀ {l : List (List Str)} {vs : List V}, RepL H0 (dSts l) vs → DpAll K H vs (pdSts l)
  | [], vs, h => by
    unfold dSts at h
    rw [List.map_nil] at h
    unfold RepL at h
    subst h
    exact .nil
  | x :: l, vs, h => by
    unfold dSts at h
    rw [List.map_cons] at h
    unfold RepL at h
    obtain ⟨y, r, rfl, h1, h2⟩ := h
    exact .cons (dp_tup s h1) (dpAll_sts s h2)
theorem dp_sts {H0 H : Hp} {x : Dt} {v : V} {l : List (List Str)} (s : SV L M H0 H) (r : Rep H0 x v) (h : vw M x = .lst (dSts l)) : Dp K H v (.list (pdSts l)) := by
  obtain ⟨a, vs, rfl, ha, hr⟩ := s.lst r h
  exact .lst (SqL.of ha) (dpAll_sts s hr)
theorem shaped_sts {l : List (List Str)} (h : ∀ s ∈ l, ∀ x ∈ s, PyData.strOk x = true) : SeqAt.shaped (.list (pdSts l)) = true := by
  have e1 : ∀ l : List (List Str), (∀ s ∈ l, ∀ x ∈ s, PyData.strOk x = true) → PyData.canLayAll0 (pdSts l) = true := by
    intro l
    induction l with
    | nil => intro _; unfold pdSts; rfl
    | cons s l ih =>
      intro h
      show PyData.canLayAll0 (.tuple (pdSs s) :: pdSts l) = true
      simp only [PyData.canLayAll0, PyData.canLay0]
      rw [lay_strs (h s List.mem_cons_self), ih fun t ht => h t (List.mem_cons_of_mem _ ht)]
      rfl
  have e2 : ∀ l : List (List Str), PyData.depthAll (pdSts l) ≤ 1 := by
    intro l
    induction l with
    | nil => exact Nat.zero_le _
    | cons s l ih =>
      show max (PyData.depthAll (pdSs s) + 1) (PyData.depthAll (pdSts l)) ≤ 1
      rw [depth_strs]
      omega
  unfold SeqAt.shaped
  have e3 : PyData.depth (.list (pdSts l)) ≤ 64 := by
    have := e2 l
    show PyData.depthAll (pdSts l) + 1 ≤ 64
    omega
  show (PyData.canLayAll0 (pdSts l) && _) = true
  rw [e1 l h, decide_eq_true e3]
  rfl
theorem any_sts (x : List Str) : ∀ l : List (List Str), ((pdSts l).any fun z => PyData.eqv z (.tuple (pdSs x))) = decide (x ∈ l)
  | [] => rfl
  | s :: l => by
    have ih := any_sts x l
    show (PyData.eqvAll (pdSs s) (pdSs x) || (pdSts l).any _) = _
    rw [ih, eqvAll_strs]
    by_cases h : s = x
    · subst h; simp
    · have h' : ¬ x = s := fun e => h e.symm
      simp [h, h']
theorem o_eqSs {x y : Dt} {xs ys : List Str} (hx : vw M x = .lst (dStrs xs)) (hy : vw M y = .lst (dStrs ys)) (h1 : ∀ z ∈ xs, PyData.strOk z = true) (h2 : ∀ z ∈ ys, PyData.strOk z = true) (k : P (.b (decide (xs = ys))) M) : Op L M (rEqD K) x y P := fun H0 H v w Q s rx ry q =>
  ⟨_, _, dp_lst s rx hx, dp_lst s ry hy, shaped_list h1, shaped_list h2, q _ (.b (decide (xs = ys))) M H0 H (Same.refl _) s (by unfold Rep; show V.bl (PyData.eqvAll _ _) = _; rw [eqvAll_strs]) k⟩
theorem o_neTs {xs ys : List Str} (h1 : ∀ z ∈ xs, PyData.strOk z = true) (h2 : ∀ z ∈ ys, PyData.strOk z = true) (k : P (.b (!decide (xs = ys))) M) : Op L M (rNeD K) (.tup (dStrs xs)) (.tup (dStrs ys)) P := fun H0 H v w Q s rx ry q =>
  ⟨_, _, dp_tup s rx, dp_tup s ry, shaped_tup h1, shaped_tup h2, q _ (.b (!decide (xs = ys))) M H0 H (Same.refl _) s (by unfold Rep; show V.bl (!PyData.eqvAll _ _) = _; rw [eqvAll_strs]) k⟩
theorem o_inSts {y : Dt} {x : List Str} {l : List (List Str)} (hy : vw M y = .lst (dSts l)) (h1 : ∀ z ∈ x, PyData.strOk z = true) (h2 : ∀ s ∈ l, ∀ z ∈ s, PyData.strOk z = true) (k : P (.b (decide (x ∈ l))) M) : Op L M (rInD K) (.tup (dStrs x)) y P := fun H0 H v w Q s rx ry q =>
  ⟨_, _, dp_tup s rx, dp_sts s ry hy, shaped_tup h1, shaped_sts h2, q _ (.b (decide (x ∈ l))) M H0 H (Same.refl _) s (by unfold Rep; rw [any_sts]) k⟩
theorem o_notInSts {y : Dt} {x : List Str} {l : List (List Str)} (hy : vw M y = .lst (dSts l)) (h1 : ∀ z ∈ x, PyData.strOk z = true) (h2 : ∀ s ∈ l, ∀ z ∈ s, PyData.strOk z = true) (k : P (.b (!decide (x ∈ l))) M) : Op L M (rNotInD K) (.tup (dStrs x)) y P := fun H0 H v w Q s rx ry q =>
  ⟨_, _, dp_tup s rx, dp_sts s ry hy, shaped_tup h1, shaped_sts h2, q _ (.b (!decide (x ∈ l))) M H0 H (Same.refl _) s (by unfold Rep; rw [any_sts]) k⟩
end
section
variable {A : Around} {k : Nat}
theorem hu0 (hr : Room k A) : A.units < cLine := by have := hr.un; omega
theorem hu64 (hr : Room k A) : A.units + 64 < cLine := by have := hr.un; omega
theorem hu65 (hr : Room k A) : A.units + 65 < cLine := by have := hr.un; omega
end
abbrev BdD (ps : List Str) (x qual : Str) (st : Stmt) (n m j : Nat) : Prop := ∀ (T : Addr) (kV doc pm : Value) (an : Option Addr) (cdv ct : Value) (us its : List Value), us.length = n → its.length = m →
  ∃ k, bindArgs (PySem.W.fnOf x qual (defArgs st) (defBody st) (defScope st) (.ref T) kV doc pm an cdv ct) ⟨us, []⟩ = seqItems? (.ref T) >>= k ∧ k (some its.toArray) = pure (ps.zip (us ++ its.drop j))
theorem mak_symD {P : Program} {w : World} {K : PySem.W.Frag} {mg : Str → Option Value} {base : Heap} {x : Str} {C : Addr} {qual : Str} {st : Stmt} {N ps : List Str} {k : Nat} {S : FS} {dvs : List V} {n j : Nat} (D : Mi K mg x C qual st dvs) (hS : FnScope N ps (defScope st)) (hd : dvs ≠ []) (hn : n + (dvs.length - j) = ps.length) (hb : BdD ps "__init__" qual st n dvs.length j) (len : ∀ a ds L M, S.pre a ds L M → ds.length = ps.length) (body : BodyOk P w K mg base k qual st N S) : C8.Mak P w K mg base (k + 1) x C S.sp (dvs.drop j) := by
  obtain ⟨f, fd, F, hm, hg⟩ := D.ex
  obtain ⟨ds, h1, h2⟩ := F.binds1 (ps := ps) n j hd hn hb
  exact ⟨f, fd, ps, ds, hm, fn_sym F hS len (body f), hg, h2, h1⟩
end K85
set_option maxRecDepth 100000
set_option maxHeartbeats 1000000
/-! dict(pairs). -/
namespace K85
open PySem L2
section
variable {L : Lk} {Γ Γ' : Gm} {M M' : Mm} {ta tb tc te tv td ty tx : TE} {t u : TT} {P : Dt → Mm → Prop} {r r' : R2} {K : PySem.W.Frag} {d : Dt} {tr : TA} {g : TG} {vs : List Nat} {wi : TI} {Es' : Es} {S : FS} {E : XK} {C : Addr} {m : Str}
theorem pairs_of {H0 H : Hp} (s : SV L M H0 H) : ∀ {l : List (Str × Dt)} {xs : List V}, RepL H0 (l.map fun p => Dt.tup [.s p.1, p.2]) xs → ∃ (ps : List Addr) (kvs : List (Key × V)), xs = ps.map V.ref ∧ PySem.Paired (fun p kv => SqT K H p [kV kv.1, kv.2]) ps kvs ∧ RepK H0 l kvs
  | [], xs, h => by
    rw [List.map_nil] at h
    unfold RepL at h
    subst h
    exact ⟨[], [], rfl, .nil, by unfold RepK; rfl⟩
  | p :: l, xs, h => by
    rw [List.map_cons] at h
    unfold RepL at h
    obtain ⟨x, r, rfl, h1, h2⟩ := h
    obtain ⟨a, ys, rfl, _, ha, hr⟩ := s.tup h1 rfl
    unfold RepL at hr
    obtain ⟨y, ys', rfl, r1, r2⟩ := hr
    obtain ⟨z, rfl, r3⟩ := one_rep r2
    unfold Rep at r1
    subst r1
    obtain ⟨ps, kvs, rfl, q1, q2⟩ := pairs_of s h2
    refine ⟨a :: ps, (.inr p.1, z) :: kvs, rfl, .cons (SqT.of ha) q1, ?_⟩
    unfold RepK
    exact ⟨z, kvs, rfl, r3, q2⟩
theorem rep_merge {H0 : Hp} : ∀ {l : List (Str × Dt)} {kvs : List (Key × V)} {acc : List (Str × Dt)} {accV : List (Key × V)}, RepK H0 l kvs → RepK H0 acc accV → RepK H0 (l.foldl (fun a p => putA a p.1 p.2) acc) (mergeK accV kvs)
  | [], kvs, acc, accV, h, k => by
    unfold RepK at h
    subst h
    exact k
  | p :: l, kvs, acc, accV, h, k => by
    unfold RepK at h
    obtain ⟨x, r, rfl, h1, h2⟩ := h
    show RepK H0 (l.foldl (fun a p => putA a p.1 p.2) (putA acc p.1 p.2)) (mergeK (putK accV (.inr p.1) x) r)
    exact rep_merge h2 (repK_put h1 k)
theorem putA_fresh {κ : Type} [DecidableEq κ] {kvs : List (κ × Dt)} {k : κ} {v : Dt} (h : k ∉ kvs.map (·.1)) : putA kvs k v = kvs ++ [(k, v)] := by
  unfold putA
  rw [if_neg]
  simp only [List.any_eq_true, decide_eq_true_eq]
  rintro ⟨kv, h1, h2⟩
  exact h (List.mem_map.mpr ⟨kv, h1, h2⟩)
theorem fold_putA : ∀ (l acc : List (Str × Dt)), ((acc ++ l).map (·.1)).Nodup → l.foldl (fun a p => putA a p.1 p.2) acc = acc ++ l
  | [], acc, _ => by rw [List.append_nil]; rfl
  | p :: l, acc, h => by
    have e : acc ++ p :: l = acc ++ [p] ++ l := by simp
    rw [List.foldl_cons, putA_fresh, fold_putA l, e]
    · rw [← e]
      exact h
    · rw [List.map_append, List.map_cons] at h
      exact fun hm => (List.nodup_append.mp h).2.2 _ hm _ List.mem_cons_self rfl
theorem c_dictP {x : Dt} {l : List (Str × Dt)} (hx : vw M x = .lst (l.map fun p => .tup [.s p.1, p.2])) (hn : (l.map (·.1)).Nodup) (k : ∀ a, M a = none → P (.adr a) (mset M a (.dK l))) :
    Cb L M (fun xs H Q => ∃ (a : Addr) (ps : List Addr) (kvs : List (Key × V)), xs = [.ref a] ∧ SqL K H a (ps.map V.ref) ∧ PySem.Paired (fun p kv => SqT K H p [kV kv.1, kv.2]) ps kvs ∧ ∀ p, H p = none → Q (.ref p) (upd H p (.dK (mergeK [] kvs)))) [x] P := fun H0 H vs Q s rs q => by
  obtain ⟨v, rfl, r1⟩ := one_rep rs
  obtain ⟨a, xs, rfl, ha, hr⟩ := s.lst r1 hx
  obtain ⟨ps, kvs, rfl, q1, q2⟩ := pairs_of (K := K) s hr
  refine ⟨a, ps, kvs, rfl, SqL.of ha, q1, fun p hp => ?_⟩
  have q3 := rep_merge (acc := []) (accV := []) q2 (by unfold RepK; rfl)
  rw [fold_putA l [] (by simpa using hn)] at q3
  exact q _ (.adr p) _ H0 _ (Same.refl _) (s.newM (d := .dK l) (u := .dK (mergeK [] kvs)) hp ⟨_, rfl, q3⟩) (by unfold Rep; rfl) (k p (s.freshM hp))
end
end K85
set_option maxRecDepth 100000
set_option maxHeartbeats 2000000
/-! Library-level rules: None asked of a dict with tuple keys; dict comprehensions with tuple keys. -/
namespace K85
open PySem L2 PySem.Spec PyProof.Rows
section
variable {prog : Program} {w : World} {K : Type} [DecidableEq K] {knd : PySem.KeyKind prog w K} {A : Around} {E : Value → Shared → Prop} {s : Shared}
theorem dictFind_none {d : Addr} {o : Obj} {es ep} {xs : List (List K × Addr × Value)} {h : Int} {Q : Option Nat → Shared → Prop} (hu : A.units < cLine)
    (ho : s.heap.get? d = some o) (hd : o.data = .dict es ep) (he : es.toList = xs.map (entryOfKey (tupleKind knd))) (his : ∀ x ∈ xs, (tupleKind knd).is s.heap x.1 x.2.1) (hq : Q none s) :
    wpAny (model prog w) A (dictFind d .none h) Q E s := by
  have hmem : ∀ e ∈ es, ∃ b, e.key = .ref b ∧ ∃ ks, IsTupleKey knd s.heap ks b := by
    intro e hin
    have : e ∈ xs.map (entryOfKey (tupleKind knd)) := he ▸ Array.mem_toList_iff.mpr hin
    obtain ⟨x, hx, rfl⟩ := List.mem_map.mp this
    exact ⟨x.2.1, rfl, x.1, his x hx⟩
  unfold dictFind
  try with_reducible refine wpAny_holding ?_
  refine wpAny_bind (wpAny_dictEntries ho hd ?_)
  dsimp only
  generalize hst : ((placesWithHash es.size (fun i => es[i]?.map (·.hash)) h).filterMap fun i => es[i]?.map (·.key)) = stored
  have hstm : ∀ v ∈ stored, ∃ b, v = .ref b ∧ ∃ ks, IsTupleKey knd s.heap ks b := by
    intro v hv
    rw [← hst] at hv
    obtain ⟨i, _, hi⟩ := List.mem_filterMap.mp hv
    cases hei : es[i]? with
    | none => rw [hei] at hi; cases hi
    | some e =>
      rw [hei] at hi
      obtain rfl : e.key = v := by simpa using hi
      exact hmem e (Array.mem_of_getElem? hei)
  have hpl : ∀ i ∈ placesWithHash es.size (fun i => es[i]?.map (·.hash)) h, ∃ e, es[i]? = some e := by
    intro i hi
    unfold placesWithHash at hi
    have := List.mem_range.mp (List.mem_filter.mp hi).1
    exact ⟨es[i], Array.getElem?_eq_getElem this⟩
  have loopEq : ∀ (e : DictEntry) {Q' : Bool → Shared → Prop}, e ∈ es → Q' false s → wpAny (model prog w) A (eqBool e.key .none) Q' E s := by
    intro e Q' hin hq'
    obtain ⟨b, eb, ks, o', items, n, ho', hc, hd', _⟩ := hmem e hin
    rw [eb]
    exact SeqAt.EqAt.tuple_none (l := b) (items := items) ⟨o', ho', hc, n, hd'⟩ hu _ _ _ _ hq'
  by_cases hall : ((Value.none :: stored).all carriedByValue) = true
  · rw [if_pos hall]
    have hnil : stored = [] := by
      cases stored with
      | nil => rfl
      | cons v r =>
        obtain ⟨b, rfl, _⟩ := hstm v List.mem_cons_self
        simp [carriedByValue] at hall
    have hpn : placesWithHash es.size (fun i => es[i]?.map (·.hash)) h = [] := by
      cases hp : placesWithHash es.size (fun i => es[i]?.map (·.hash)) h with
      | nil => rfl
      | cons i r =>
        obtain ⟨e, hei⟩ := hpl i (by rw [hp]; exact List.mem_cons_self)
        rw [hp, List.filterMap_cons, hei] at hst
        simp [hnil] at hst
    rw [hpn]
    unfold dictWalkPlain
    exact wpAny_pure hq
  · rw [if_neg hall]
    have quiet : wpAny (model prog w) A (tableMayTell .none stored) (fun b s' => b = false ∧ s' = s) E s := by
      unfold tableMayTell
      split
      · exact wpAny_pure ⟨rfl, rfl⟩
      · rw [eqIsQuiet_byValue 8 (v := .none) rfl]
        refine wpAny_bind (wpAny_pure ?_)
        simp only [Bool.not_true, Bool.false_eq_true, if_false]
        refine wpAny_bind ?_
        refine wpAny_forIn_list _ (fun rest r s' => s' = s ∧ r = (none, ()) ∧ ∀ v ∈ rest, ∃ b, v = .ref b ∧ ∃ ks, IsTupleKey knd s.heap ks b) _ ?_ ?_ _ _ ⟨rfl, rfl, hstm⟩
        · rintro x rest r s' ⟨rfl, rfl, hr⟩
          obtain ⟨b, rfl, ks, hb⟩ := hr x List.mem_cons_self
          refine wpAny_bind (wpAny_eqIsQuiet_tuple hb ?_)
          simp only [Bool.not_true, Bool.false_eq_true, if_false]
          exact wpAny_pure ⟨rfl, rfl, fun v hv => hr v (List.mem_cons_of_mem _ hv)⟩
        · rintro r s' ⟨rfl, rfl, _⟩
          exact wpAny_pure ⟨rfl, rfl⟩
    have hone : ¬ (stored == [Value.none]) = true := by
      intro h
      have h : stored = [Value.none] := by simpa using h
      obtain ⟨b, e, _⟩ := hstm .none (by rw [h]; exact List.mem_cons_self)
      cases e
    rw [if_neg hone]
    refine wpAny_bind (wpAny_mono quiet (fun b s' hb => ?_) fun _ _ x => x)
    obtain ⟨rfl, rfl⟩ := hb
    rw [if_neg (by simp)]
    try refine wpAny_bind (wpAny_pure ?_)
    refine wpAny_bind ?_
    refine wpAny_forIn_list _ (fun rest b s1 => s1 = s' ∧ b = (none, none) ∧ ∀ i ∈ rest, ∃ e, es[i]? = some e) _ ?_ ?_ _ _ ⟨rfl, rfl, hpl⟩
    · rintro i rest b s1 ⟨rfl, rfl, hr⟩
      obtain ⟨e, hei⟩ := hr i List.mem_cons_self
      have hin : e ∈ es := Array.mem_of_getElem? hei
      rw [hei]
      dsimp only
      by_cases hh : (e.hash == h) = true
      · rw [if_pos hh]
        refine wpAny_bind (wpAny_dictEpoch ho hd (wpAny_bind (loopEq e hin (wpAny_bind (wpAny_dictEpoch ho hd ?_)))))
        show wpAny _ _ (if (ep != ep) = true then _ else _) _ E _
        rw [if_neg (by simp)]
        simp only [Bool.false_eq_true, if_false]
        refine wpAny_bind (wpAny_rule ?_)
        first | rw [if_neg (by simp)] | skip
        first
          | exact wpAny_pure ⟨rfl, rfl, fun j hj => hr j (List.mem_cons_of_mem _ hj)⟩
          | exact wpAny_bind (wpAny_pure (wpAny_pure ⟨rfl, rfl, fun j hj => hr j (List.mem_cons_of_mem _ hj)⟩))
      · rw [if_neg hh]
        exact wpAny_pure ⟨rfl, rfl, fun j hj => hr j (List.mem_cons_of_mem _ hj)⟩
    · rintro b s1 ⟨rfl, rfl, _⟩
      exact wpAny_pure hq
theorem wpAny_in_none {d : Addr} {xs : List (List K × Addr × Value)} {Q : Value → Shared → Prop} (hu : A.units + 1 < cLine) (hd : (d == sysModules) = false) (hm : s.heap.DictOfH (tupleKind knd) d xs)
    (h : ∀ s', s'.heap = s.heap → s' = { s with toks := s'.toks } → Q (.bool false) s') : wpAny (model prog w) A (compareOp .In .none (.ref d)) Q E s := by
  show wpAny _ _ (do return .bool (← contains (.ref d) .none)) Q E s
  refine wpAny_bind ?_
  unfold contains
  try with_reducible refine wpAny_holding ?_
  refine wpAny_bind (wpAny_specialOf hm.typeIs slot_dict_contains.lookup ?_)
  show wpAny _ _ (if (some (Value.builtin "dict.__contains__") == some Value.none) = true then _ else _) _ E s
  rw [if_neg (by rw [beq_builtin_none]; exact Bool.false_ne_true)]
  refine wpAny_bind (wpAny_callSpecialUnlessNone?_slot (name := Str.ofString "__contains__") hm.typeIs slot_dict_contains
    (wpAny_call_entry slot_dict_contains hm.typeIs entry_dict_contains ?_ (args_dict_contains _ _)))
  show wpAny _ _ (dictGet d .none >>= _) _ _ s
  refine wpAny_bind ?_
  unfold dictGet
  try with_reducible refine wpAny_holding ?_
  obtain ⟨o, es, ep, ho, hc, hdd, he, his, hn⟩ := hm
  refine wpAny_bind (PySem.W.pyHash_slot (T := "NoneType") rfl PySem.F.slot_NoneType_hash PySem.F.entry_NoneType_hash (PySem.F.args_NoneType_hash_1 _) (beq_builtin_none _) (.inl rfl) (wpAny_bind (wpAny_pure (wpAny_bind (wpAny_mkInt (wpAny_pure ⟨_, _, rfl, ?_⟩))))))
  refine wpAny_bind (dictFind_none (knd := knd) (xs := xs) hu ho hdd he his ?_)
  refine wpAny_pure ?_
  show wpAny _ _ (Builtin.Dict.pendingKey? d .none >>= _) _ _ _
  exact wpAny_bind (wpAny_pendingKey_other hd (wpAny_pure ⟨_, rfl, wpAny_truthy_bool (wpAny_pure (h _ rfl rfl))⟩))
end
section
variable {X : Cx}
/-- k in d, keys tuples, None asked too -/
def tDInN (ty td : TE) : TE := fun σ H Q => ty σ H fun y H1 => td σ H1 fun x H2 => ∃ a, x = .ref a ∧ ((∃ o, DGet H2 a y o ∧ Q (.bl o.isSome) H2) ∨ (y = .non ∧ (∃ kvs, Rd H2 a (.dT kvs)) ∧ Q (.bl false) H2))
theorem pc_dinN {i o : Expr} {ty td : TE} (hu : X.A.units + 1 < cLine) (hi : PE X i ty) (ho : PE X o td) : PC X .In i o (tDInN ty td) := by
  refine ⟨fun pins s σ H Q I h => ?_⟩
  refine thn (hi.run pins s σ H _ I h) fun iv s1 ⟨y, H1, I1, ry, q1⟩ => thn (ho.run pins s1 σ H1 _ I1 q1) fun u s2 ⟨x, H2, I2, rx, a, ex, q2⟩ => ?_
  subst ex
  obtain rfl : u = Value.ref a := rx
  rcases q2 with ⟨ov, g, q2⟩ | ⟨rfl, ⟨kvs, g⟩, q2⟩
  · exact d_in hu I2 g ry fun s3 I3 => ⟨.bl ov.isSome, H2, I3, rfl, q2⟩
  · cases (show iv = Value.none from ry)
    obtain ⟨z, hd, xs, rel, dd⟩ := dt_rd I2.hok g
    refine wpAny_in_none hu hd dd fun s3 e1 e2 => ⟨.bl false, H2, ?_, rfl, q2⟩
    rw [e2]
    exact I2.tok _
end
end K85
set_option maxRecDepth 100000
set_option maxHeartbeats 2000000
/-! name = {k: v for ..}, the keys tuples. -/
namespace K85
open PySem L2 PySem.Spec PyProof.Rows
theorem dictSet_tup {X : Cx} {pins : List (Addr × Obj)} {σ : L2.St} {H : Hp} {s : Shared} {E : Value → Shared → Prop} {D b : Addr} {kvs : List (List Key × V)} {k : List Key} {v : V} {u r : Value} {Q : Unit → Shared → Prop} (hu : X.A.units + 1 < cLine) (I : Inv X pins σ H s) (hD : H D = some (.dT kvs)) (hb : H b = some (.tup (k.map kV))) (hz : kvs.length < sizeLine)
    (ry : RelV (.ref b) u) (rv : RelV v r) (h : ∀ s', Inv X pins σ (upd H D (.dT (putK kvs k v))) s' → Q () s') : wpAny (model X.prog X.w) X.A (dictSet D u r) Q E s := by
  cases (show u = Value.ref b from ry)
  obtain ⟨z, hd, xs, rel, dd⟩ := dt_of I.hok hD
  have hzv : xs.length ≤ sizeLine := by rw [← Paired.length rel]; exact z
  have hl : (putK kvs k v).length ≤ sizeLine := by have := length_putK kvs k v; omega
  refine wpAny_dictSet_heap (hsz := hzv) (show X.A.units < cLine by omega) (key_of I.hok hb) dd fun h' dd' hs => h _ ?_
  obtain ⟨q, es, ep, hq, h2, h3, h4, _, h5⟩ := dd'
  refine d_write I (by rw [hD]; exact True.intro) hs ⟨q, hq⟩ ⟨hl, hd, _, (rel.put k hb rv).keeps fun c ys ec => ?_, q, es, ep, hq, h2, h3, h4, h5⟩
  rw [upd_ne (ne_of ec hD (fun z => nomatch z))]
  exact ec
section
variable {X : Cx}
/-- {k: v for target in iter if ..}, keys tuples: D the new dict -/
def tDcT (wi : TI) (g : TG) (tt : TT) (tk tv : TE) (vs : List Nat) : TE := fun σ H Q => wi σ H fun J H1 => ∀ D, H1 D = none → ∃ W : Nat → Nat → Hp → Prop, (∃ m, W 0 m (upd H1 D (.dT []))) ∧ ∀ i m H, W i m H →
  (J.stop i H ∧ Q (.ref D) H) ∨ (J.go i H ∧ ∃ Nx : Hp → Prop, (∀ H', Nx H' → ∃ m', m' < m ∧ W (i + 1) m' H') ∧ ∀ x H', J.yld i H x H' → g x (wipe σ vs) H' fun σ2 H2 => wipe σ2 vs = wipe σ vs ∧ tt σ2 H2 fun b H3 =>
    if b = true then tk σ2 H3 fun y H4 => tv σ2 H4 fun z H5 => ∃ kvs k b, y = .ref b ∧ H5 b = some (.tup (k.map kV)) ∧ H5 D = some (.dT kvs) ∧ kvs.length < sizeLine ∧ Nx (upd H5 D (.dT (putK kvs k z))) else Nx H3)
theorem swD_true {kx vx : Expr} {gs : List Comprehension} {scope : Scope} {pos py : Pos} {y : Str} {l : Nat} {env : Env} (hk : env.scope.kind = .function) (hy : env.scope.names.lookup y = some .local) (hl : (py.line == pos.line) = true)
    (ha : (scope.names.any fun (n, k) => n == y && (k == .local || k == .cell)) = false) : swapsWith (.DictComp kx vx gs scope pos) (some (.Name y py)) l env = pure true := by
  have ky : env.kindOf y = some .local := hy
  have hb : env.blockKind = .function := by unfold Env.blockKind; rw [hk]; rfl
  unfold swapsWith
  simp only [hb, ky, ha, Expr.pos, hl]
  rfl
theorem ps_setDcT {i : Nat} {y : Str} {py : Pos} {kx vx tg iter : Expr} {ifs : List Expr} {scope : Scope} {own : List (Str × Nat)} {pos spos : Pos} {wi : TI} {g : TG} {tt : TT} {tk tv : TE} (hu : X.A.units + 1 < cLine) (hc : X.calm = true) (hN : X.N.Nodup) (hy : X.N[i]? = some y) (hyl : X.env.scope.names.lookup y = some .local)
    (hsw : swapsWith (.DictComp kx vx [⟨tg, iter, ifs, 0⟩] scope pos) (some (.Name y py)) spos.line X.env = pure true) (hi : PI X tg iter wi) (ok : BlkOk X.N X.env.scope scope own)
    (hg : ∀ (s : Shared) (H : Hp) (C : Addr) (cl : List (Str × Addr)) (fp : List Addr), PG (X.blk s H scope (compEnvC scope cl C X.env) fp) tg g) (ht : ∀ (s : Shared) (H : Hp) (C : Addr) (cl : List (Str × Addr)) (fp : List Addr), PTs (X.blk s H scope (compEnvC scope cl C X.env) fp) ifs tt)
    (hk : ∀ (s : Shared) (H : Hp) (C : Addr) (cl : List (Str × Addr)) (fp : List Addr), PE (X.blk s H scope (compEnvC scope cl C X.env) fp) kx tk)
    (he : ∀ (s : Shared) (H : Hp) (C : Addr) (cl : List (Str × Addr)) (fp : List Addr), PE (X.blk s H scope (compEnvC scope cl C X.env) fp) vx tv) (hs : ∀ x, foldedSetIterable iter X.env x = pure x := by intro _; rfl) :
    PS X (.Assign [.Name y py] (.DictComp kx vx [⟨tg, iter, ifs, 0⟩] scope pos) spos) (tAsg (tDcT wi g tt tk tv (own.map (·.2))) (gName i)) := by
  refine ⟨fun pins s σ H D0 I h => ?_⟩
  rw [exec_Assign_Name_used _ _ _ _ hsw]
  refine wpAny_bind (wpAny_standAt (wpAny_bind ?_))
  show wpAny _ X.A (do let _ ← comprehension (.DictComp kx vx [⟨tg, iter, ifs, 0⟩] scope pos) scope X.env (firstIterPos [⟨tg, iter, ifs, 0⟩] pos) newDict false (eval iter X.env) (some (assign (.Name y py) X.env))) _ _ s
  have h : tDcT wi g tt tk tv (own.map (·.2)) σ H (fun x H1 => gName i x σ H1 D0.nx) := h
  refine wpAny_bind ?_
  have hfree : ∀ y ∈ scope.names, y.2 = .free → ∃ c, X.env.cells.lookup y.1 = some c := fun y hy e => by
    rcases ok.free y hy e with k | k
    · exact I.ok.has _ (.inl k)
    · exact I.ok.has _ (.inr k)
  refine thn (Q := fun (_ : Value) s' => SP X pins D0 .next s') ?_ fun _ s' hq => wpAny_pure (wpAny_pure hq)
  refine wpAny_comprehension_free (use := some (assign (.Name y py) X.env)) rfl hs (closure_ok hfree) ok.kind (fun y hy e => by rw [ok.uniq y hy, e])
    (thn (hi.run pins s σ H _ I h) fun xv s1 hx => thn hx fun itv s2 h2 => ?_)
  obtain ⟨it, fp, tn, J, H2, e, I2, T, st2, f2, q⟩ := h2
  subst e
  refine wpAny_newObj_type (newEnv_comp ?_)
  generalize hD : s2.heap.objs.size = D
  have hDn : H2 D = none := I2.hok.fresh (Nat.le_of_eq hD)
  obtain ⟨W, ⟨m0, w0⟩, turn⟩ := q D hDn
  generalize hs3 : ({ s2 with heap := s2.heap.push { cls := .type "dict", data := .dict #[] } } : Shared) = s3
  have I3 : Inv X pins σ (upd H2 D (.dT [])) s3 := by
    rw [← hs3]
    refine I2.laid (t' := s2.toks) (fun b o e => Heap.get?_push_of_some _ e) (Nat.le_of_eq hD) ?_
    rw [← hD]
    exact dt_empty s2.heap I2.big
  have h3 : s3.heap = s2.heap.push { cls := .type "dict", data := .dict #[] } := by rw [← hs3]
  have sz : ∀ b ∈ fp, b < s2.heap.objs.size := fun b hb => by
    obtain ⟨o, e, _⟩ := T.obj _ _ st2 b hb
    exact Heap.lt_size e
  have f3 : ∀ b ∈ fp, FpOk X pins (upd H2 D (.dT [])) b ∧ b < s3.heap.objs.size := fun b hb => by
    have hlt := sz b hb
    refine ⟨⟨?_, (f2 b hb).2⟩, by rw [h3, Heap.size_push]; exact Nat.lt_succ_of_lt hlt⟩
    rw [upd_ne (by rw [← hD]; exact Nat.ne_of_lt hlt)]
    exact (f2 b hb).1
  have st3 : tn 0 s3.heap := T.keep _ _ _ st2 fun b _ o e => by rw [h3]; exact Heap.get?_push_of_some _ e
  have I4 := block_start I3 ok hN f3
  have pg := hg s3 (upd H2 D (.dT [])) s3.heap.objs.size (cellsFrom (s3.heap.objs.size + 1) scope.names (cloFrom X.env.cells scope.names [])) fp
  have pt := ht s3 (upd H2 D (.dT [])) s3.heap.objs.size (cellsFrom (s3.heap.objs.size + 1) scope.names (cloFrom X.env.cells scope.names [])) fp
  have pk := hk s3 (upd H2 D (.dT [])) s3.heap.objs.size (cellsFrom (s3.heap.objs.size + 1) scope.names (cloFrom X.env.cells scope.names [])) fp
  have pe := he s3 (upd H2 D (.dT [])) s3.heap.objs.size (cellsFrom (s3.heap.objs.size + 1) scope.names (cloFrom X.env.cells scope.names [])) fp
  show codeAny _ _ (.compStart (.DictComp kx vx [⟨tg, iter, ifs, 0⟩] scope pos) 0 (.ref it) (.ref D) (compEnvC scope (cellsFrom (s3.heap.objs.size + 1) scope.names (cloFrom X.env.cells scope.names [])) s3.heap.objs.size X.env)) (compPost (model X.prog X.w) X.A X.xe (some (assign (.Name y py) X.env)) (fun _ s' => SP X pins D0 .next s') (.ref D) s3.heap.objs.size) { s3 with heap := pushCells (s3.heap.push { cls := .type "dict", data := .dict #[] }) scope.names }
  have nfp : ∀ b ∈ fp, (upd H2 D (.dT [])) b = none := fun b hb => (f3 b hb).1.1
  generalize hce : compEnvC scope (cellsFrom (s3.heap.objs.size + 1) scope.names (cloFrom X.env.cells scope.names [])) s3.heap.objs.size X.env = ce at I4 pg pt pk pe ⊢
  have cL : ce.locals = s3.heap.objs.size := by subst hce; rfl
  generalize hH3 : upd H2 D (.dT []) = H3 at I3 I4 pg pt pk pe w0 nfp f3
  generalize hs4 : ({ s3 with heap := pushCells (s3.heap.push { cls := .type "dict", data := .dict #[] }) scope.names } : Shared) = s4 at I4 ⊢
  have st4 : tn 0 s4.heap := T.keep _ _ _ st3 fun b _ o e => by rw [← hs4]; exact pushCells_keeps _ _ _ _ (Heap.get?_push_of_some _ e)
  have stat : ∀ {σ' : L2.St} {H' : Hp} {s' : Shared}, Inv (X.blk s3 H3 scope ce fp) [] σ' H' s' → (∀ b ∈ fp, H' b = none) → ∀ b ∈ fp, FpOk (X.blk s3 H3 scope ce fp) [] H' b := fun {σ' H' s'} I' hn b hb =>
    ⟨hn b hb, (I'.ok.exf b hb).1, I'.ok.exfs b hb, .inl hb, fun x c e => (I'.ok.exf b hb).2 x c e, fun p hp => absurd (show p ∈ ([] : List (Addr × Obj)) ++ [] from hp) (by simp)⟩
  have ending : ∀ s' m H', Inv X pins σ H' s' → gName i (.ref D) σ H' D0.nx → s'.heap.Ns s3.heap.objs.size m → FpOk X pins H' s3.heap.objs.size → compPost (model X.prog X.w) X.A X.xe (some (assign (.Name y py) X.env)) (fun _ s' => SP X pins D0 .next s') (.ref D) s3.heap.objs.size (.ok .next) s' := by
    intro s' m H' I' q hn f
    show wpAny _ _ (assign (.Name y py) X.env (.ref D)) _ _ _
    refine wpAny_assign_Name (store_ok2 (v := V.ref D) I' hN hy (.inl hyl) rfl (fun s2 I2 ⟨a, sb, ha⟩ => ?_) (.inr hyl))
    obtain ⟨f0, f1, f2, f3, f4, f5⟩ := f
    have haC : s3.heap.objs.size ≠ a := by
      rcases ha with z | z
      · rw [z]; exact f1
      · exact fun e => f4 y a z e.symm
    refine ⟨m, hn.sameBut sb haC, fun h3 sb3 => ?_⟩
    exact ⟨_, H', I2.turned (t' := s2.toks) (fun b o hb e => (sb3.2 b hb).trans e) f0 f1 f3 f4 f5, q⟩
  have loop : codeAny (model X.prog X.w) X.A (.compLoop (.DictComp kx vx [⟨tg, iter, ifs, 0⟩] scope pos) 0 (.ref it) (.ref D) ce) (compPost (model X.prog X.w) X.A X.xe (some (assign (.Name y py) X.env)) (fun _ s' => SP X pins D0 .next s') (.ref D) s3.heap.objs.size) s4 := by
    refine compLoop_anyD (fun n s' => ∃ i H', Inv (X.blk s3 H3 scope ce fp) [] (wipe σ (own.map (·.2))) H' s' ∧ tn i s'.heap ∧ (∀ b ∈ fp, H' b = none) ∧ W i n H') ?_ m0 ⟨0, H3, I4, st4, nfp, w0⟩
    rintro n s5 ⟨i, H5, I5, st5, n5, w5⟩
    rcases turn i n H5 w5 with ⟨stop, qq⟩ | ⟨go, Nx, hNx, step⟩
    · refine thnF (T.done (X.blk s3 H3 scope ce fp) rfl rfl rfl hc i [] s5 _ H5 (fun _ _ => False) I5 (stat I5 n5) st5 stop) fun r s6 ⟨hr, I6⟩ => ?_
      subst hr
      have I7 : Inv X pins σ H5 s6 := I3.call' (ch := fp) I6.os I6.base I6.hok I6.bare fun b hb => ⟨(f3 b hb).1.2.2.2.1, (f3 b hb).1.2.1, (f3 b hb).1.2.2.2.2.1, (f3 b hb).1.2.2.2.2.2⟩
      have nC : H5 s3.heap.objs.size = none := by
        have z : H5 ce.locals = none := I6.free
        rw [cL] at z
        exact z
      obtain ⟨m, hn, _⟩ := I6.loc
      have hn : s6.heap.Ns ce.locals m := hn
      rw [cL] at hn
      exact ending s6 m H5 I7 qq hn (I3.fpOk (Nat.le_refl _) nC)
    · refine thnF (T.item (X.blk s3 H3 scope ce fp) rfl rfl rfl hc i [] s5 _ H5 (fun _ _ => False) I5 (stat I5 n5) st5 go) fun r s6 ⟨u, hr, h6⟩ => ?_
      subst hr
      refine thnF h6 fun _ s7 ⟨x, H7, I7, r7, y7, st7, n7⟩ => ?_
      have I7' := I7.pinned (stat I7 n7) (T.obj _ _ st7)
      refine thnF (pg.run _ s7 _ H7 x u _ I7' r7 (step x H7 y7)) fun _ s8 ⟨σ8, H8, I8, hw8, q8⟩ => ?_
      refine thnF (pt.run _ s8 σ8 H8 _ I8 q8) fun b s9 ⟨H9, I9, q9⟩ => ?_
      have fin : ∀ {s' : Shared} {H' : Hp}, Inv (X.blk s3 H3 scope ce fp) ([] ++ pinsAt fp s7.heap) σ8 H' s' → Nx H' → ∃ m, m < n ∧ ∃ i H', Inv (X.blk s3 H3 scope ce fp) [] (wipe σ (own.map (·.2))) H' s' ∧ tn i s'.heap ∧ (∀ b ∈ fp, H' b = none) ∧ W i m H' := fun {s' H'} I' nx => by
        obtain ⟨m', hm, w'⟩ := hNx H' nx
        have pin' : ∀ b ∈ fp, ∀ o, s7.heap.get? b = some o → s'.heap.get? b = some o ∧ H' b = none := fun b hb o e =>
          let z := I'.pin (b, o) (List.mem_append_right _ (List.mem_append_right _ (mem_pinsAt hb e)))
          ⟨z.1, z.2.1⟩
        have hl : (wipe σ (own.map (·.2))).length = σ8.length := by rw [← hw8, wipe_length]
        refine ⟨m', hm, i + 1, H', (I'.unpinned (pins := [])).weak hl (fun j v e => ?_), T.keep _ _ _ st7 fun b hb o e => (pin' b hb o e).1, fun b hb => ?_, w'⟩
        · rw [← hw8] at e
          exact (wipe_some e).1
        · obtain ⟨o, e, _⟩ := T.obj _ _ st7 b hb
          exact (pin' b hb o e).2
      cases b with
      | false =>
        simp only [Bool.false_eq_true, if_false] at q9 ⊢
        exact fin I9 q9
      | true =>
        simp only [if_true] at q9 ⊢
        refine thnF (pk.run _ s9 σ8 H9 _ I9 q9) fun z s10 ⟨yk, H10, I10, r10, q10⟩ => ?_
        refine thnF (pe.run _ s10 σ8 H10 _ I10 q10) fun z2 s11 ⟨yv, H11, I11, r11, kvs, k, b, ek, hb11, hD11, hz11, nx⟩ => ?_
        subst ek
        exact dictSet_tup (X := X.blk s3 H3 scope ce fp) hu I11 hD11 hb11 hz11 r10 r11 fun s12 I12 => fin I12 nx
  exact codeAny_compStart_dict loop (T.self X.A 0 _ _ _ st4 loop)
end
end K85
set_option maxRecDepth 100000
set_option maxHeartbeats 1000000
/-! Symbolic rules: enumerate, None in a dict, dicts with tuple keys. -/
namespace K85
open PySem L2
section
variable {L : Lk} {Γ Γ' : Gm} {M M' : Mm} {ta tb tc te tv td ty tx : TE} {t u : TT} {P : Dt → Mm → Prop} {r r' : R2} {K : PySem.W.Frag} {d : Dt} {tr : TA} {g : TG} {vs : List Nat} {wi : TI} {Es' : Es} {S : FS} {E : XK} {C : Addr} {m : Str}
def enumD (ds : List Dt) : List Dt := (List.range ds.length).map fun i => .tup [.i ((i : Nat) : Int), ds.getD i .non]
theorem yl_enum {a : Addr} {xs : List V} {ds : List Dt} {H0 : Hp} (ha : H0 a = some (.lst xs)) (hr : RepL H0 ds xs) : Yl L (Ite K a) H0 (enumD ds) := fun H0' M H e s => by
  have hd : Rep H0' (.lst ds) (.ref a) := by
    unfold Rep
    exact ⟨a, xs, rfl, e _ _ ha, hr.up e⟩
  obtain ⟨a', xs', e1, hH, hr'⟩ := s.lst hd (M := M) rfl
  cases e1
  have hl := repL_len hr'
  have hn : (enumD ds).length = ds.length := by unfold enumD; simp
  refine ⟨fun i hi => ⟨xs', xs'[i]'(by omega), SqL.of hH, by rw [List.getElem?_eq_getElem]⟩, fun i hi => ⟨xs', SqL.of hH, by omega⟩, fun i dd x H' hd' y => ?_⟩
  obtain ⟨T, z, rfl, hT, rfl, y⟩ := y
  have hi : i < ds.length := by rw [← hn]; exact (List.getElem?_eq_some_iff.mp hd').1
  have hz := y xs' (SqL.of hH)
  obtain ⟨v, h1, h2⟩ := repL_get hr' (List.getElem?_eq_getElem hi)
  rw [h1] at hz
  cases hz
  have h0 := s.fresh0 hT
  refine ⟨_, same_new h0, s.newP hT, ?_⟩
  have ed : dd = .tup [.i ((i : Nat) : Int), ds[i]] := by
    unfold enumD at hd'
    rw [List.getElem?_map, List.getElem?_range hi] at hd'
    cases hd'
    simp [List.getD_eq_getElem?_getD, List.getElem?_eq_getElem hi]
  subst ed
  unfold Rep
  refine ⟨T, _, rfl, upd_same, repL_cons (by unfold Rep; rfl) (repL_one (h2.up (same_new h0)))⟩
theorem i_enum {PI' : List Dt → Mm → Prop} (h : EvA L Γ M tr fun ds M1 => ∃ es, ds = [.lst es] ∧ PI' (enumD es) M1) : Iv L Γ M (iEnum K tr) PI' := fun σ H0 H R s g q =>
  h σ H0 H _ s g fun vs ds M1 H1 H1' e s1 rr p => by
    obtain ⟨es, rfl, p⟩ := p
    obtain ⟨v, rfl, r1⟩ := one_rep rr
    have r1' := r1
    unfold Rep at r1
    obtain ⟨a, xs, rfl, ha, hr⟩ := r1
    obtain ⟨a', xs', e1, ha', _⟩ := s1.lst r1' rfl
    cases e1
    exact ⟨a, xs', rfl, SqL.of ha', q _ _ M1 H1 H1' e s1 (yl_enum ha hr) p⟩
/-- edge[0] in table -/
theorem e_dinN (h : Ev L Γ M ty fun y M1 => Ev L Γ M1 td fun x M2 => ∃ kvs, vw M2 x = .dT kvs ∧ ((∃ ks, y = .tup (dStrs ks) ∧ P (.b (lookA kvs ks).isSome) M2) ∨ (y = .non ∧ P (.b false) M2))) : Ev L Γ M (tDInN ty td) P := fun σ H0 H Q s g q =>
  h σ H0 H _ s g fun v x M1 H1 H1' e1 s1 r1 p => p σ H1 H1' _ s1 (g.up e1) fun w y M2 H2 H2' e2 s2 r2 p => by
    obtain ⟨kvs, hx, p4⟩ := p
    obtain ⟨a, ws, rfl, hr, hk, _⟩ := s2.dT r2 hx
    refine ⟨a, rfl, ?_⟩
    rcases p4 with ⟨ks, rfl, p5⟩ | ⟨rfl, p5⟩
    · obtain ⟨a', od, o, e, hd, hm, rfl⟩ := dg_of (R := fun o => o = lookA kvs ks) s2 r2 (r1.up e2) (.inr ⟨kvs, ks, hx, rfl, rfl⟩)
      cases e
      refine .inl ⟨o, hd, q _ (.b (lookA kvs ks).isSome) M2 H2 H2' (e1.trans e2) s2 ?_ p5⟩
      unfold Rep
      rw [hm.isSome]
    · have hv := r1.up e2
      unfold Rep at hv
      subst hv
      exact .inr ⟨rfl, ⟨ws, hr⟩, q _ (.b false) M2 H2 H2' (e1.trans e2) s2 (by unfold Rep; rfl) p5⟩
/-- {k: v for ..}, the keys tuples of texts -/
theorem e_dcTO {tk : TE} (wk : Wo vs g) (h : Iv L Γ M wi fun ds M1 => ∀ D, M1 D = none → ∃ I : Nat → Mm → Prop, I 0 (mset M1 D (.dT [])) ∧
      (∀ (i : Nat) (d : Dt) M', ds[i]? = some d → I i M' → Gv L (wipeG Γ vs) M' g d fun Γ2 M2 => EvT L Γ2 M2 t fun b M3 => if b = true then Ev L Γ2 M3 tk fun k M4 => Ev L Γ2 M4 te fun z M5 => ∃ kvs x, k = .tup (dStrs x) ∧ M5 D = some (.dT kvs) ∧ kvs.length < 100000 ∧ I (i + 1) (mset M5 D (.dT (putA kvs x z))) else I (i + 1) M3) ∧
      ∀ M', I ds.length M' → P (.adr D) M') : Ev L Γ M (tDcT wi g t tk te vs) P := fun σ H0 H Q s gg q =>
  h σ H0 H _ s gg fun J ds M1 H1 H1' e s1 y p D hD => by
    obtain ⟨I, i0, st, dn⟩ := p D (s1.freshM hD)
    have gg := gg.up e
    refine ⟨fun i m H' => m = ds.length - i ∧ i ≤ ds.length ∧ ∃ M' H0', Same H1 H0' ∧ SV L M' H0' H' ∧ I i M', ⟨ds.length, by simp, Nat.zero_le _, _, H1, Same.refl _, s1.newM (d := .dT []) (u := .dT []) hD ⟨[], rfl, by unfold RepT; rfl⟩, i0⟩, ?_⟩
    rintro i m H' ⟨rfl, hi, M', H0', e', s', ii⟩
    obtain ⟨y1, y2, y3⟩ := y H0' M' H' e' s'
    by_cases hlt : i < ds.length
    · refine .inr ⟨y1 i hlt, fun H2 => ∃ M2 H02, Same H1 H02 ∧ SV L M2 H02 H2 ∧ I (i + 1) M2, fun H2 w => ⟨ds.length - (i + 1), by omega, rfl, hlt, w⟩, fun x H'' yy => ?_⟩
      have hd : ds[i]? = some ds[i] := List.getElem?_eq_getElem hlt
      obtain ⟨H3, e3, s3, r3⟩ := y3 i _ x H'' hd yy
      have tg := wk x (wipe σ vs) H'' _ (st i _ M' hd ii (wipe σ vs) H3 H'' x (fun σ2 H2 => t σ2 H2 fun b H3 => if b = true then tk σ2 H3 fun ky H4 => te σ2 H4 fun y H5 => ∃ kvs k b, ky = .ref b ∧ H5 b = some (.tup (k.map kV)) ∧ H5 D = some (.dT kvs) ∧ kvs.length < sizeLine ∧ (fun H2 => ∃ M2 H02, Same H1 H02 ∧ SV L M2 H02 H2 ∧ I (i + 1) M2) (upd H5 D (.dT (putK kvs k y))) else (fun H2 => ∃ M2 H02, Same H1 H02 ∧ SV L M2 H02 H2 ∧ I (i + 1) M2) H3) s3 ((sg_wipe (gg.up (e'.trans e3)) vs)) r3 ?_)
      · rw [wipe_wipe vs vs (fun _ h => h)] at tg
        exact tg
      · intro Γ2 M2 σ2 H4 H4' e4 s4 g4 rr
        refine rr σ2 H4 H4' _ s4 g4 fun b M5 H5 H5' e5 s5 p5 => ?_
        cases b with
        | false => exact ⟨M5, H5, ((e'.trans e3).trans e4).trans e5, s5, p5⟩
        | true =>
          refine p5 σ2 H5 H5' _ s5 (g4.up e5) fun kv kd M6 H6 H6' e6 s6 r6 p6 => p6 σ2 H6 H6' _ s6 (g4.up (e5.trans e6)) fun yv yd M7 H7 H7' e7 s7 r7 p7 => ?_
          obtain ⟨kvs, x, rfl, hM, hl, p8⟩ := p7
          obtain ⟨h0, uu, hu, ws, rfl, hf⟩ := s7.own D _ hM
          obtain ⟨b, xs, rfl, _, hb, hx⟩ := s7.tup (r6.up e7) rfl
          refine ⟨ws, x.map .inr, b, rfl, by rw [hb, repL_strs hx, kV_map], hu, Nat.lt_of_lt_of_le (by rw [repT_len hf]; exact hl) (by decide), _, H7, ((((e'.trans e3).trans e4).trans e5).trans e6).trans e7, s7.wr (d := .dT (putA kvs x yd)) (u := .dT (putK ws (x.map .inr) yv)) hM ⟨_, rfl, repT_put r7 hf⟩, p8⟩
    · have hi' : i = ds.length := by omega
      subst hi'
      exact .inl ⟨y2 _ (Nat.le_refl _), q _ (.adr D) M' H0' H' (e.trans e') s' (by unfold Rep; rfl) (dn M' ii)⟩
/-- falls[-1][0], a dict, to be walked -/
theorem loc_end {i : Nat} {ds rest : List Dt} (h : Γ[i]? = some (some (.lst (ds ++ [.tup (d :: rest)])))) (hd : (∃ kvs, d = .dK kvs) ∨ ∃ kvs, d = .dT kvs) : Loc L Γ M (tOp (rIxT K) (tOp (rIxL K) (tVar i) (tUn (rU fun i => .int (-i)) (tC (.int 1)))) (tC (.int 0))) d := fun σ H0 H s g => by
  obtain ⟨v, h1, h2⟩ := g.2 i _ h
  have h2' := h2
  obtain ⟨b, xs, rfl, hb, hr⟩ := s.lst h2 (M := M) rfl
  have hl := repL_len hr
  rw [List.length_append, List.length_singleton] at hl
  obtain ⟨z, z1, z2⟩ := repL_get hr (i := ds.length) (d := .tup (d :: rest)) (by simp)
  obtain ⟨c, ys, rfl, hc0, hc, hr2⟩ := s.tup z2 rfl
  unfold RepL at hr2
  obtain ⟨y, ys', rfl, r1, r2⟩ := hr2
  obtain ⟨a, u, rfl, ha, isd, _⟩ := rep_at r1 hd
  have hb0 : ∃ xs, H0 b = some (.lst xs) := by
    unfold Rep at h2'
    obtain ⟨b', xs', e, hb', _⟩ := h2'
    cases e
    exact ⟨_, hb'⟩
  have hba : b ≠ a := by
    rintro rfl
    obtain ⟨_, e⟩ := hb0
    rw [e] at ha
    cases ha
    rcases isd with ⟨_, q⟩ | ⟨_, q⟩ <;> cases q
  have hca : c ≠ a := by
    rintro rfl
    rw [hc0] at ha
    cases ha
    rcases isd with ⟨_, q⟩ | ⟨_, q⟩ <;> cases q
  refine ⟨a, u, r1, ha, fun od Q q => ?_⟩
  refine ⟨.ref b, h1, 1, rfl, ?_⟩
  refine ⟨b, xs, _, .ref c, rfl, rfl, SqL.of (by rw [upd_ne hba]; exact hb), ?_, ?_⟩
  · unfold atI ixN
    rw [if_neg (by decide), hl, if_pos (by omega)]
    show xs[(-1 + ((ds.length + 1 : Nat) : Int)).toNat]? = some (.ref c)
    rw [show (-1 + ((ds.length + 1 : Nat) : Int)).toNat = ds.length by omega]
    exact z1
  · exact ⟨c, _, _, .ref a, rfl, rfl, SqT.of (by rw [upd_ne hca]; exact hc), atI_nat (j := 0) (by rfl), q⟩
end
end K85
set_option maxRecDepth 100000
set_option maxHeartbeats 4000000
/-! names, conditions -/
namespace K85
open PySem L2
open C8 (Cal Met Mak pe_c pe_mk pe_mt pe_mt0 pe_gc)
local macro_rules | `(tactic| walk_at "sy1") => `(tactic| with_reducible first
  | refine r_seq ?_ | refine r_if ?_ | refine r_ret ?_ | refine r_retN ?_ | refine r_asg ?_ | refine r_drop ?_ | refine r_brk ?_ | refine r_cont ?_ | refine r_fld ?_ | refine r_dput ?_ | refine r_for ?_ | refine r_next ?_
  | refine g_name ?_ | refine g_tup ?_ | refine g_unl ?_ | refine g_cons ?_ | refine g_nil ?_
  | refine t_test ?_ | refine t_B ?_ | refine t_not ?_ | refine t_and ?_ | refine t_or ?_ | refine t_yes ?_
  | refine e_var rfl ?_ | refine e_int ?_ | refine e_str ?_ | refine e_bl ?_ | refine e_non ?_ | refine e_ref ?_ | refine e_op ?_ | refine e_un ?_ | refine e_andV ?_ | refine e_orV ?_ | refine e_notV ?_ | refine e_if ?_ | refine e_isN ?_ | refine e_notN ?_
  | refine e_tup ?_ | refine e_fld ?_ | refine e_call0 ?_ | refine e_meth0 ?_ | refine e_cb ?_ | refine e_bm ?_ | refine e_dget ?_ | refine e_dget1 ?_ | refine e_din ?_ | refine e_dnotin ?_ | refine e_chain ?_ | refine e_fcall ?_ | refine e_sm ?_
  | refine a_nil ?_ | refine a_cons ?_ | refine i_list ?_ | refine i_tup ?_ | refine i_seq ?_ | refine i_rng1 ?_ | refine i_str ?_
  | refine s_none ?_ | refine s_some ?_ | refine e_slL ?_ | refine e_slT ?_
  | refine o_II ?_ | refine o_IB ?_)
local macro_rules | `(tactic| walk_at "sy") => `(tactic| repeat (first | walk_at "sy1" | refine ⟨_, rfl, ?_⟩ | refine ⟨(rfl : List.lookup _ _ = none), ?_⟩))
local macro_rules | `(tactic| walk_at "eqF") => `(tactic| (refine o_eq rfl rfl rfl ?_; walk_at "sy"; refine iF (by decide +kernel) ?_; walk_at "sy"))
local macro_rules | `(tactic| walk_at "eqT") => `(tactic| (refine o_eq rfl rfl rfl ?_; walk_at "sy"; refine iT (by decide +kernel) ?_; walk_at "sy"))
local macro_rules | `(tactic| walk_at "pureEnd") => `(tactic| (rintro d M' ⟨rfl, rfl⟩))
def NameOk (x : Str) : Prop := 1 ≤ x.length ∧ x.length ≤ 8 ∧ x ∉ (["and", "or", "not", "always", "never"] : List Str) ∧ ∀ c ∈ x.cps.toList, c ∈ ("abcdefghijklmnopqrstuvwxyz" : Str).cps.toList
def S_is_name : FS := pureS Str (fun x => [.s x]) NameOk (fun _ => .b true)
abbrev s_is_name : Stmt := top 22
theorem sc_is_name : FnScope ["text", "letter"] ["text"] (defScope s_is_name) := ⟨rfl, rfl, rfl, by decide +kernel, rfl, by decide +kernel, by decide +kernel⟩
section
variable {P : Program} {w : World} {K : PySem.W.Frag} {mg : Str → Option Value} {base : Heap}
theorem ok_is_name (T : Tx K mg) (D : Df K mg "is_name" s_is_name) : Cal P w K mg base 1 "is_name" S_is_name.sp [] := by
  refine cal_sym D sc_is_name (fun _ _ _ _ _ _ us hl => match us, hl with | [_], _ => rfl) (fun a ds L M h => by obtain ⟨rfl, _⟩ := h; rfl) (fun f cdv A outer s H E hr => ⟨_, pss_cons (ps_if (PW.pt (pw_or (pt_not (pt_chain op_le op_le pe_int (pe_callB call_len_str (by rfl) T.f_len (by decide +kernel) (pa_cons (pv 0) pa_nil)) pe_int)) (pw_or1 (pt_cmpR op_in_seq (pv 0) (pe_gr rfl T.g_RESERVED) rfl)))) (pss_one (ps_ret pe_bl)) pss_nil) (pss_one (ps_ret (pe_callB (cr_all rfl) (by rfl) T.f_all (by decide +kernel) (pa_cons (pe_lc (own := [("letter", 1)]) rfl sc_is_name.nd (pi_str (pv 0)) (blkOk_by (own := [("letter", 1)]) (N := ["text", "letter"]) (sc := defScope s_is_name) (by decide +kernel)) (fun _ _ _ _ _ => (pg_name (i := 1) sc_is_name.nd rfl (Or.inl rfl))) (fun _ _ _ _ _ => pts_nil) (fun _ _ _ _ _ => (pe_cmpR op_in_sign (pv 1) (pe_gc rfl T.g_LETTERS) rfl))) pa_nil)))), fun (x : Str) ds L M h => ?_⟩)
  obtain ⟨rfl, h1, h2, h3, h4⟩ := h
  walk_at "sy"
  refine c_lenS (by omega) ?_
  walk_at "sy"
  refine iT (decide_eq_true (by omega)) ?_
  walk_at "sy"
  refine iF (by simp; omega) ?_
  walk_at "sy"
  refine o_inK T.reserved ?_
  walk_at "sy"
  refine iF (by simp only [Bool.false_eq_true, if_false]; exact decide_eq_false h3) ?_
  walk_at "sy"
  refine e_lcM (α := Nat) (wo_name (by decide)) ?_
  walk_at "sy"
  refine ⟨x.cps.toList, fun c => .s ⟨#[c]⟩, fun _ => true, fun _ => .b true, rfl, ?_, fun c hc => ?_, ?_⟩
  · show x.length ≤ 50000
    omega
  · intro M' l
    walk_at "sy"
    refine ⟨rfl, ?_⟩
    walk_at "sy"
    refine ⟨rfl, rfl, fun _ => ?_⟩
    walk_at "sy"
    refine o_inSign ⟨?_, rfl⟩
    rw [decide_eq_true (h4 c hc)]
  · walk_at "sy"
    refine c_all (bs := List.replicate x.cps.toList.length true) ?_ ?_
    · rw [filter_tt]
      show Dt.lst _ = Dt.lst _
      congr 1
      unfold dBls
      rw [List.map_replicate, List.map_const']
    · refine ⟨?_, rfl⟩
      simp
end
end K85
set_option maxRecDepth 100000
set_option maxHeartbeats 4000000
/-! conditions -/
namespace K85
open PySem L2
open C8 (Cal Met Mak pe_c pe_mk pe_mt pe_mt0 pe_gc)
local macro_rules | `(tactic| walk_at "sy1") => `(tactic| with_reducible first
  | refine r_seq ?_ | refine r_if ?_ | refine r_ret ?_ | refine r_retN ?_ | refine r_asg ?_ | refine r_drop ?_ | refine r_brk ?_ | refine r_cont ?_ | refine r_fld ?_ | refine r_dput ?_ | refine r_for ?_ | refine r_next ?_
  | refine g_name ?_ | refine g_tup ?_ | refine g_unl ?_ | refine g_cons ?_ | refine g_nil ?_
  | refine t_test ?_ | refine t_B ?_ | refine t_not ?_ | refine t_and ?_ | refine t_or ?_ | refine t_yes ?_
  | refine e_var rfl ?_ | refine e_int ?_ | refine e_str ?_ | refine e_bl ?_ | refine e_non ?_ | refine e_ref ?_ | refine e_op ?_ | refine e_un ?_ | refine e_andV ?_ | refine e_orV ?_ | refine e_notV ?_ | refine e_if ?_ | refine e_isN ?_ | refine e_notN ?_
  | refine e_tup ?_ | refine e_fld ?_ | refine e_call0 ?_ | refine e_meth0 ?_ | refine e_cb ?_ | refine e_bm ?_ | refine e_dget ?_ | refine e_dget1 ?_ | refine e_din ?_ | refine e_dnotin ?_ | refine e_chain ?_ | refine e_fcall ?_ | refine e_sm ?_
  | refine a_nil ?_ | refine a_cons ?_ | refine i_list ?_ | refine i_tup ?_ | refine i_seq ?_ | refine i_rng1 ?_ | refine i_str ?_
  | refine s_none ?_ | refine s_some ?_ | refine e_slL ?_ | refine e_slT ?_
  | refine o_II ?_ | refine o_IB ?_)
local macro_rules | `(tactic| walk_at "sy") => `(tactic| repeat (first | walk_at "sy1" | refine ⟨_, rfl, ?_⟩ | refine ⟨(rfl : List.lookup _ _ = none), ?_⟩))
local macro_rules | `(tactic| walk_at "eqF") => `(tactic| (refine o_eq rfl rfl rfl ?_; walk_at "sy"; refine iF (by decide +kernel) ?_; walk_at "sy"))
local macro_rules | `(tactic| walk_at "eqT") => `(tactic| (refine o_eq rfl rfl rfl ?_; walk_at "sy"; refine iT (by decide +kernel) ?_; walk_at "sy"))
local macro_rules | `(tactic| walk_at "pureEnd") => `(tactic| (rintro d M' ⟨rfl, rfl⟩))
def S_ascending : FS := ⟨List Str, fun xs ds _ _ => ds = [.lst (dStrs xs)] ∧ xs.length ≤ 32, fun xs M d M' => M = M' ∧ ∃ ys, d = .lst (dStrs ys) ∧ (∀ y, y ∈ ys → y ∈ xs) ∧ (∀ y, y ∈ xs → y ∈ ys) ∧ ys.length ≤ xs.length⟩
def S_holds (n : Nat) : FS := pureS (Tr × Bool × List Str) (fun a => [a.1.d, dNm a.2.1 a.2.2]) (fun a => a.1.depth ≤ n) (fun a => .b (a.1.holds a.2.2))
def S_names_in (n : Nat) : FS := pureS Tr (fun t => [t.d]) (fun t => t.depth ≤ n ∧ t.names.length ≤ 100) (fun t => .lst (dStrs t.names))
abbrev s_tree_holds : Stmt := top 35
theorem sc_tree_holds : FnScope ["tree", "names", "word"] ["tree", "names"] (defScope s_tree_holds) := ⟨rfl, rfl, rfl, by decide +kernel, rfl, by decide +kernel, by decide +kernel⟩
abbrev s_names_in : Stmt := top 36
theorem sc_names_in : FnScope ["tree", "found", "part"] ["tree"] (defScope s_names_in) := ⟨rfl, rfl, rfl, by decide +kernel, rfl, by decide +kernel, by decide +kernel⟩
section
variable {P : Program} {w : World} {K : PySem.W.Frag} {mg : Str → Option Value} {base : Heap}
theorem Tr.depth_pos (t : Tr) : 1 ≤ t.depth := by cases t <;> simp [Tr.depth]
theorem ok_tree_holds (T : Tx K mg) (D : Df K mg "tree_holds" s_tree_holds) : ∀ n : Nat, Cal P w K mg base (n + 1) "tree_holds" (S_holds n).sp [] := by
  intro n
  induction n with
  | zero =>
    refine cal_sym D sc_tree_holds (fun _ _ _ _ _ _ us hl => match us, hl with | [_, _], _ => rfl) (fun a ds L M h => by obtain ⟨rfl, _⟩ := h; rfl) (fun f cdv A outer s H E hr => ⟨_, pss_never, fun a ds L M h => ?_⟩)
    obtain ⟨_, h⟩ := h
    have := Tr.depth_pos a.1
    have h2 : a.1.depth ≤ 0 := h
    omega
  | succ n ih =>
    refine cal_sym D sc_tree_holds (fun _ _ _ _ _ _ us hl => match us, hl with | [_, _], _ => rfl) (fun a ds L M h => by obtain ⟨rfl, _⟩ := h; rfl) (fun f cdv A outer s H E hr => ⟨_, pss_cons (ps_set (i := 2) sc_tree_holds.nd rfl (Or.inl rfl) (pe_ix ix_tup (pv 0) pe_int (fun _ _ => rfl))) (pss_cons (ps_if (pt_cmpR op_eq (pv 2) pe_str (nomark _)) (pss_one (ps_ret (pe_cmpR op_in_seq (pe_ix ix_tup (pv 0) pe_int (fun _ _ => rfl)) (pv 1) rfl))) pss_nil) (pss_cons (ps_if (pt_cmpR op_eq (pv 2) pe_str (nomark _)) (pss_one (ps_ret (pe_not (pe_c ih hr (by omega) rfl (pa_cons (pe_ix ix_tup (pv 0) pe_int (fun _ _ => rfl)) (pa_cons (pv 1) pa_nil)))))) pss_nil) (pss_cons (ps_if (pt_cmpR op_eq (pv 2) pe_str (nomark _)) (pss_one (ps_ret (pe_and (pe_c ih hr (by omega) rfl (pa_cons (pe_ix ix_tup (pv 0) pe_int (fun _ _ => rfl)) (pa_cons (pv 1) pa_nil))) (pe_one (pe_c ih hr (by omega) rfl (pa_cons (pe_ix ix_tup (pv 0) pe_int (fun _ _ => rfl)) (pa_cons (pv 1) pa_nil))))))) pss_nil) (pss_cons (ps_if (pt_cmpR op_eq (pv 2) pe_str (nomark _)) (pss_one (ps_ret (pe_or (pe_c ih hr (by omega) rfl (pa_cons (pe_ix ix_tup (pv 0) pe_int (fun _ _ => rfl)) (pa_cons (pv 1) pa_nil))) (pe_one (pe_c ih hr (by omega) rfl (pa_cons (pe_ix ix_tup (pv 0) pe_int (fun _ _ => rfl)) (pa_cons (pv 1) pa_nil))))))) pss_nil) (pss_one (ps_ret (pe_cmpR op_eq (pv 2) pe_str (nomark _)))))))), fun a ds L M h => ?_⟩)
    obtain ⟨t, b, ns⟩ := a
    obtain ⟨rfl, h⟩ := h
    have h : t.depth ≤ n + 1 := h
    cases t with
    | is x =>
      walk_at "sy"
      refine o_ixT (n := 0) (d := .s "is") rfl ?_
      walk_at "sy"
      walk_at "eqT"
      refine o_ixT (n := 1) (d := .s x) rfl ?_
      walk_at "sy"
      refine o_inS (vw_nm b ns) ⟨rfl, rfl⟩
    | nt t =>
      have h : t.depth + 1 ≤ n + 1 := h
      walk_at "sy"
      refine o_ixT (n := 0) (d := .s "not") rfl ?_
      walk_at "sy"
      walk_at "eqF"
      walk_at "eqT"
      refine o_ixT (n := 1) (d := t.d) rfl ?_
      walk_at "sy"
      refine ⟨(t, b, ns), ⟨rfl, by show t.depth ≤ n; omega⟩, ?_⟩
      rintro d M' ⟨rfl, rfl⟩
      exact ⟨_, rfl, rfl, rfl⟩
    | an t u =>
      have h : max t.depth u.depth + 1 ≤ n + 1 := h
      walk_at "sy"
      refine o_ixT (n := 0) (d := .s "and") rfl ?_
      walk_at "sy"
      walk_at "eqF"
      walk_at "eqF"
      walk_at "eqT"
      refine o_ixT (n := 1) (d := t.d) rfl ?_
      walk_at "sy"
      refine ⟨(t, b, ns), ⟨rfl, by show t.depth ≤ n; omega⟩, ?_⟩
      rintro d M' ⟨rfl, rfl⟩
      refine ⟨_, rfl, iB (fun e => ?_) (fun e => ?_)⟩
      · walk_at "sy"
        refine o_ixT (n := 2) (d := u.d) rfl ?_
        walk_at "sy"
        refine ⟨(u, b, ns), ⟨rfl, by show u.depth ≤ n; omega⟩, ?_⟩
        rintro d M' ⟨rfl, rfl⟩
        exact ⟨by show Dt.b (u.holds ns) = .b (t.holds ns && u.holds ns); rw [show t.holds ns = true from e, Bool.true_and], rfl⟩
      · exact ⟨by show Dt.b false = .b (t.holds ns && u.holds ns); rw [show t.holds ns = false from e, Bool.false_and], rfl⟩
    | or t u =>
      have h : max t.depth u.depth + 1 ≤ n + 1 := h
      walk_at "sy"
      refine o_ixT (n := 0) (d := .s "or") rfl ?_
      walk_at "sy"
      walk_at "eqF"
      walk_at "eqF"
      walk_at "eqF"
      walk_at "eqT"
      refine o_ixT (n := 1) (d := t.d) rfl ?_
      walk_at "sy"
      refine ⟨(t, b, ns), ⟨rfl, by show t.depth ≤ n; omega⟩, ?_⟩
      rintro d M' ⟨rfl, rfl⟩
      refine ⟨_, rfl, iB (fun e => ?_) (fun e => ?_)⟩
      · exact ⟨by show Dt.b true = .b (t.holds ns || u.holds ns); rw [show t.holds ns = true from e, Bool.true_or], rfl⟩
      · walk_at "sy"
        refine o_ixT (n := 2) (d := u.d) rfl ?_
        walk_at "sy"
        refine ⟨(u, b, ns), ⟨rfl, by show u.depth ≤ n; omega⟩, ?_⟩
        rintro d M' ⟨rfl, rfl⟩
        exact ⟨by show Dt.b (u.holds ns) = .b (t.holds ns || u.holds ns); rw [show t.holds ns = false from e, Bool.false_or], rfl⟩
    | alw =>
      walk_at "sy"
      refine o_ixT (n := 0) (d := .s "always") rfl ?_
      walk_at "sy"
      walk_at "eqF"
      walk_at "eqF"
      walk_at "eqF"
      walk_at "eqF"
      exact o_eq rfl rfl rfl ⟨congrArg Dt.b (show decide (V.str "always" = V.str "always") = true by decide +kernel), rfl⟩
    | nev =>
      walk_at "sy"
      refine o_ixT (n := 0) (d := .s "never") rfl ?_
      walk_at "sy"
      walk_at "eqF"
      walk_at "eqF"
      walk_at "eqF"
      walk_at "eqF"
      exact o_eq rfl rfl rfl ⟨congrArg Dt.b (show decide (V.str "never" = V.str "always") = false by decide +kernel), rfl⟩
theorem vw_adr {M : Mm} {a : Addr} {d : Dt} (h : M a = some d) : vw M (.adr a) = d := by
  show (M a).getD (.adr a) = d
  rw [h]
  rfl
theorem cut1 {x : Dt} {l : List Dt} : cutD (x :: l) (some 1) none = l := by
  have e1 : HT.sIx (x :: l).length 0 (some 1) = 1 := by
    have := HT.sIx_nat (x :: l).length 0 1
    rw [List.length_cons] at this ⊢
    exact this.trans (by omega)
  unfold cutD
  rw [e1]
  show ((x :: l).drop 1).take ((x :: l).length - 1) = _
  simp
theorem kids_names (t : Tr) (h : ∀ x, t ≠ .is x) : t.names = t.kids.flatMap Tr.names := by
  cases t with
  | is x => exact absurd rfl (h x)
  | _ => simp [Tr.names, Tr.kids]
theorem kids_depth {t u : Tr} (h : u ∈ t.kids) : u.depth < t.depth := by
  cases t <;> simp [Tr.kids] at h <;> simp [Tr.depth]
  · subst h; omega
  · rcases h with rfl | rfl <;> omega
  · rcases h with rfl | rfl <;> omega
theorem dStrs_app (a b : List Str) : dStrs (a ++ b) = dStrs a ++ dStrs b := by simp [dStrs]
theorem kids_len {t u : Tr} (h : u ∈ t.kids) : u.names.length ≤ t.names.length := by
  cases t <;> simp [Tr.kids] at h <;> simp [Tr.names]
  · subst h; omega
  · rcases h with rfl | rfl <;> omega
  · rcases h with rfl | rfl <;> omega
theorem take_len {t : Tr} (h : ∀ x, t ≠ .is x) (i : Nat) : ((t.kids.take i).flatMap Tr.names).length ≤ t.names.length := by
  rw [kids_names t h, List.length_flatMap, List.length_flatMap]
  have e : t.kids.map (List.length ∘ Tr.names) = (t.kids.take i).map (List.length ∘ Tr.names) ++ (t.kids.drop i).map (List.length ∘ Tr.names) := by
    rw [← List.map_append, List.take_append_drop]
  have e2 : (t.kids.map fun a => a.names.length) = ((t.kids.take i).map fun a => a.names.length) ++ ((t.kids.drop i).map fun a => a.names.length) := by
    rw [← List.map_append, List.take_append_drop]
  rw [e2, List.sum_append]
  omega
theorem d_form (t : Tr) (h : ∀ x, t ≠ .is x) : ∃ s : Str, t.d = .tup (.s s :: t.kids.map Tr.d) ∧ decide (V.str s = V.str "is") = false := by
  cases t with
  | is x => exact absurd rfl (h x)
  | nt t => exact ⟨"not", rfl, by decide +kernel⟩
  | an a b => exact ⟨"and", rfl, by decide +kernel⟩
  | or a b => exact ⟨"or", rfl, by decide +kernel⟩
  | alw => exact ⟨"always", rfl, by decide +kernel⟩
  | nev => exact ⟨"never", rfl, by decide +kernel⟩
theorem ok_names_in (T : Tx K mg) (D : Df K mg "names_in" s_names_in) : ∀ n : Nat, Cal P w K mg base (n + 1) "names_in" (S_names_in n).sp [] := by
  intro n
  induction n with
  | zero =>
    refine cal_sym D sc_names_in (fun _ _ _ _ _ _ us hl => match us, hl with | [_], _ => rfl) (fun a ds L M h => by obtain ⟨rfl, _⟩ := h; rfl) (fun f cdv A outer s H E hr => ⟨_, pss_never, fun a ds L M h => ?_⟩)
    obtain ⟨_, h, _⟩ := h
    have := Tr.depth_pos a
    have h2 : a.depth ≤ 0 := h
    omega
  | succ n ih =>
    refine cal_sym D sc_names_in (fun _ _ _ _ _ _ us hl => match us, hl with | [_], _ => rfl) (fun a ds L M h => by obtain ⟨rfl, _⟩ := h; rfl) (fun f cdv A outer s H E hr => ⟨_, pss_cons (ps_if (pt_cmpR op_eq (pe_ix ix_tup (pv 0) pe_int (fun _ _ => rfl)) pe_str (nomark _)) (pss_one (ps_ret (pe_lst (pa_cons (pe_ix ix_tup (pv 0) pe_int (fun _ _ => rfl)) pa_nil)))) pss_nil) (pss_cons (ps_set (i := 1) sc_names_in.nd rfl (Or.inl rfl) (pe_lst pa_nil)) (pss_cons (ps_for PassesOwn.never rfl (pi_tup (pe_slice sl_tupA (pv 0) (po_some pe_int) po_none)) (pg_name (i := 2) sc_names_in.nd rfl (Or.inl rfl)) (pss_one (ps_expr (pe_bm PySem.F.plainAttrs_list PySem.F.slot_list_extend PySem.F.type_list_extend mt_extend (pv 1) (pa_cons (pe_c ih hr (by omega) rfl (pa_cons (pv 2) pa_nil)) pa_nil))))) (pss_one (ps_ret (pv 1))))), fun (t : Tr) ds L M h => ?_⟩)
    obtain ⟨rfl, h, hl⟩ := h
    have h : t.depth ≤ n + 1 := h
    have hl : t.names.length ≤ 100 := hl
    by_cases hi : ∃ x, t = .is x
    · obtain ⟨x, rfl⟩ := hi
      walk_at "sy"
      refine o_ixT (n := 0) (d := .s "is") rfl ?_
      walk_at "sy"
      walk_at "eqT"
      refine e_lst ?_
      walk_at "sy"
      refine o_ixT (n := 1) (d := .s x) rfl ?_
      walk_at "sy"
      exact ⟨by simp, rfl, rfl⟩
    · have hi : ∀ x, t ≠ .is x := fun x e => hi ⟨x, e⟩
      obtain ⟨s, ed, hs⟩ := d_form t hi
      show Run L (startG _ [t.d]) M _ _
      walk_at "sy"
      rw [ed]
      refine o_ixT (n := 0) (d := .s s) rfl ?_
      walk_at "sy"
      refine o_eq rfl rfl rfl ?_
      walk_at "sy"
      refine iF hs ?_
      walk_at "sy"
      refine e_lstO ?_
      walk_at "sy"
      refine ⟨by decide, fun a ha => ?_⟩
      walk_at "sy"
      refine ⟨fun i Γ' M' => (∃ v, Γ' = [some (.tup (.s s :: t.kids.map Tr.d)), some (.adr a), v]) ∧ M' = mset M a (.lst (dStrs ((t.kids.take i).flatMap Tr.names))), ⟨⟨none, rfl⟩, rfl⟩, ?_, ?_⟩
      · rintro i d Γ' M' hd ⟨⟨v, rfl⟩, rfl⟩
        rw [cut1, List.getElem?_map] at hd
        cases q : t.kids[i]? with
        | none => rw [q] at hd; cases hd
        | some u =>
          rw [q] at hd
          cases hd
          have hu := List.mem_of_getElem? q
          have h1 := kids_depth hu
          have h2 := kids_len hu
          walk_at "sy"
          refine ⟨_, vw_adr mset_same, ?_⟩
          walk_at "sy"
          refine ⟨u, ⟨rfl, by show u.depth ≤ n; omega, by show u.names.length ≤ 100; omega⟩, ?_⟩
          rintro d M' ⟨rfl, rfl⟩
          walk_at "sy"
          have tl := take_len hi i
          refine m_ext mset_same rfl (by simp only [dStrs, List.length_map]; omega) ?_
          refine ⟨⟨_, rfl⟩, ?_⟩
          rw [mset_mset, ← dStrs_app]
          congr 3
          have hl := (List.getElem?_eq_some_iff.mp q).1
          rw [List.take_succ_eq_append_getElem hl, (List.getElem?_eq_some_iff.mp q).2]
          simp
      · rintro Γ' M' ⟨⟨v, rfl⟩, rfl⟩
        refine r_ret (e_frz ?_)
        walk_at "sy"
        refine ⟨_, _, rfl, mset_same, ?_, (mdel_mset ha).symm⟩
        rw [cut1, List.length_map, List.take_length, ← kids_names t hi]
end
end K85
set_option maxRecDepth 100000
set_option maxHeartbeats 4000000
/-! conditions -/
namespace K85
open PySem L2
open C8 (Cal Met Mak pe_c pe_mk pe_mt pe_mt0 pe_gc)
local macro_rules | `(tactic| walk_at "sy1") => `(tactic| with_reducible first
  | refine r_seq ?_ | refine r_if ?_ | refine r_ret ?_ | refine r_retN ?_ | refine r_asg ?_ | refine r_drop ?_ | refine r_brk ?_ | refine r_cont ?_ | refine r_fld ?_ | refine r_dput ?_ | refine r_for ?_ | refine r_next ?_
  | refine g_name ?_ | refine g_tup ?_ | refine g_unl ?_ | refine g_cons ?_ | refine g_nil ?_
  | refine t_test ?_ | refine t_B ?_ | refine t_not ?_ | refine t_and ?_ | refine t_or ?_ | refine t_yes ?_
  | refine e_var rfl ?_ | refine e_int ?_ | refine e_str ?_ | refine e_bl ?_ | refine e_non ?_ | refine e_ref ?_ | refine e_op ?_ | refine e_un ?_ | refine e_andV ?_ | refine e_orV ?_ | refine e_notV ?_ | refine e_if ?_ | refine e_isN ?_ | refine e_notN ?_
  | refine e_tup ?_ | refine e_fld ?_ | refine e_call0 ?_ | refine e_meth0 ?_ | refine e_cb ?_ | refine e_bm ?_ | refine e_dget ?_ | refine e_dget1 ?_ | refine e_din ?_ | refine e_dnotin ?_ | refine e_chain ?_ | refine e_fcall ?_ | refine e_sm ?_
  | refine a_nil ?_ | refine a_cons ?_ | refine i_list ?_ | refine i_tup ?_ | refine i_seq ?_ | refine i_rng1 ?_ | refine i_str ?_
  | refine s_none ?_ | refine s_some ?_ | refine e_slL ?_ | refine e_slT ?_
  | refine o_II ?_ | refine o_IB ?_)
local macro_rules | `(tactic| walk_at "sy") => `(tactic| repeat (first | walk_at "sy1" | refine ⟨_, rfl, ?_⟩ | refine ⟨(rfl : List.lookup _ _ = none), ?_⟩))
local macro_rules | `(tactic| walk_at "eqF") => `(tactic| (refine o_eq rfl rfl rfl ?_; walk_at "sy"; refine iF (by decide +kernel) ?_; walk_at "sy"))
local macro_rules | `(tactic| walk_at "eqT") => `(tactic| (refine o_eq rfl rfl rfl ?_; walk_at "sy"; refine iT (by decide +kernel) ?_; walk_at "sy"))
local macro_rules | `(tactic| walk_at "pureEnd") => `(tactic| (rintro d M' ⟨rfl, rfl⟩))
abbrev s_ascending : Stmt := top 23
theorem sc_ascending : FnScope ["names", "name"] ["names"] (defScope s_ascending) := ⟨rfl, rfl, rfl, by decide +kernel, rfl, by decide +kernel, by decide +kernel⟩
abbrev s_sublists : Stmt := top 37
theorem sc_sublists : FnScope ["names", "found", "name", "some"] ["names"] (defScope s_sublists) := ⟨rfl, rfl, rfl, by decide +kernel, rfl, by decide +kernel, by decide +kernel⟩
abbrev s_implies : Stmt := top 38
theorem sc_implies : FnScope ["one", "other", "names"] ["one", "other"] (defScope s_implies) := ⟨rfl, rfl, rfl, by decide +kernel, rfl, by decide +kernel, by decide +kernel⟩
abbrev s_Condition___init__ : Stmt := inClass (top 41) 0
theorem sc_Condition___init__ : FnScope ["self", "tree"] ["self", "tree"] (defScope s_Condition___init__) := ⟨rfl, rfl, rfl, by decide +kernel, rfl, by decide +kernel, by decide +kernel⟩
abbrev s_Condition_of : Stmt := inClass (top 41) 1
theorem sc_Condition_of : FnScope ["name"] ["name"] (defScope s_Condition_of) := ⟨rfl, rfl, rfl, by decide +kernel, rfl, by decide +kernel, by decide +kernel⟩
abbrev s_Condition_always : Stmt := inClass (top 41) 2
theorem sc_Condition_always : FnScope [] [] (defScope s_Condition_always) := ⟨rfl, rfl, rfl, by decide +kernel, rfl, by decide +kernel, by decide +kernel⟩
abbrev s_Condition_never : Stmt := inClass (top 41) 3
theorem sc_Condition_never : FnScope [] [] (defScope s_Condition_never) := ⟨rfl, rfl, rfl, by decide +kernel, rfl, by decide +kernel, by decide +kernel⟩
abbrev s_Condition_names : Stmt := inClass (top 41) 4
theorem sc_Condition_names : FnScope ["self"] ["self"] (defScope s_Condition_names) := ⟨rfl, rfl, rfl, by decide +kernel, rfl, by decide +kernel, by decide +kernel⟩
abbrev s_Condition___call__ : Stmt := inClass (top 41) 5
theorem sc_Condition___call__ : FnScope ["self", "names"] ["self", "names"] (defScope s_Condition___call__) := ⟨rfl, rfl, rfl, by decide +kernel, rfl, by decide +kernel, by decide +kernel⟩
abbrev s_Condition___and__ : Stmt := inClass (top 41) 7
theorem sc_Condition___and__ : FnScope ["self", "other"] ["self", "other"] (defScope s_Condition___and__) := ⟨rfl, rfl, rfl, by decide +kernel, rfl, by decide +kernel, by decide +kernel⟩
abbrev s_Condition___or__ : Stmt := inClass (top 41) 8
theorem sc_Condition___or__ : FnScope ["self", "other"] ["self", "other"] (defScope s_Condition___or__) := ⟨rfl, rfl, rfl, by decide +kernel, rfl, by decide +kernel, by decide +kernel⟩
abbrev s_Condition___invert__ : Stmt := inClass (top 41) 9
theorem sc_Condition___invert__ : FnScope ["self"] ["self"] (defScope s_Condition___invert__) := ⟨rfl, rfl, rfl, by decide +kernel, rfl, by decide +kernel, by decide +kernel⟩
abbrev s_Condition___eq__ : Stmt := inClass (top 41) 10
theorem sc_Condition___eq__ : FnScope ["self", "other"] ["self", "other"] (defScope s_Condition___eq__) := ⟨rfl, rfl, rfl, by decide +kernel, rfl, by decide +kernel, by decide +kernel⟩
def dSubs (l : List (List Str)) : List Dt := l.map fun s => .lst (dStrs s)
def S_sublists : FS := ⟨List Str, fun xs ds _ _ => ds = [.lst (dStrs xs)] ∧ xs.length ≤ 10, fun xs M d M' => M = M' ∧ ∃ l, d = .lst (dSubs l) ∧ l.length ≤ 50000⟩
def S_implies : FS := pureS Tr (fun t => [t.d, t.d]) (fun t => t.depth ≤ 5 ∧ t.names.length ≤ 5) (fun _ => .b true)
section
variable {P : Program} {w : World} {K : PySem.W.Frag} {mg : Str → Option Value} {base : Heap}
theorem ok_ascending (T : Tx K mg) (D : Df K mg "ascending" s_ascending) : Cal P w K mg base 1 "ascending" S_ascending.sp [] := by
  refine cal_sym D sc_ascending (fun _ _ _ _ _ _ us hl => match us, hl with | [_], _ => rfl) (fun a ds L M h => by obtain ⟨rfl, _⟩ := h; rfl) (fun f cdv A outer s H E hr => ⟨_, pss_one (ps_ret (pe_callB (cr_sortedSt rfl) (by rfl) T.f_sorted (by decide +kernel) (pa_cons (pe_callTy (cr_setSt rfl) (by rfl) T.f_set (by decide +kernel) (pa_cons (pe_lc (own := [("name", 1)]) rfl sc_ascending.nd (pi_list (pv 0)) (blkOk_by (own := [("name", 1)]) (N := ["names", "name"]) (sc := defScope s_ascending) (by decide +kernel)) (fun _ _ _ _ _ => (pg_name (i := 1) sc_ascending.nd rfl (Or.inl rfl))) (fun _ _ _ _ _ => pts_nil) (fun _ _ _ _ _ => (pe_callTy SkE.call_str_str (by rfl) T.f_str (by decide +kernel) (pa_cons (pv 1) pa_nil)))) pa_nil)) pa_nil))), fun (xs : List Str) ds L M h => ?_⟩)
  obtain ⟨rfl, hl⟩ := h
  refine r_ret (e_sortSet ?_)
  walk_at "sy"
  refine e_lcM (α := Str) (wo_name (by decide)) ?_
  walk_at "sy"
  refine ⟨xs, Dt.s, fun _ => true, Dt.s, rfl, by omega, fun x hx => ?_, ?_⟩
  · intro M' l
    walk_at "sy"
    refine ⟨rfl, ?_⟩
    walk_at "sy"
    refine ⟨rfl, rfl, fun _ => ?_⟩
    walk_at "sy"
    exact c_strS ⟨rfl, rfl⟩
  · walk_at "sy"
    refine ⟨_, xs, rfl, ?_, by omega, fun ys h1 h2 => ⟨rfl, ys, rfl, fun y => (h1 y).1, fun y => (h1 y).2, h2⟩⟩
    rw [filter_tt]
    rfl
theorem ok_sublists (T : Tx K mg) (D : Df K mg "sublists" s_sublists) : Cal P w K mg base 1 "sublists" S_sublists.sp [] := by
  refine cal_sym D sc_sublists (fun _ _ _ _ _ _ us hl => match us, hl with | [_], _ => rfl) (fun a ds L M h => by obtain ⟨rfl, _⟩ := h; rfl) (fun f cdv A outer s H E hr => ⟨_, pss_cons (ps_set (i := 1) sc_sublists.nd rfl (Or.inl rfl) (pe_lst (pa_cons (pe_lst pa_nil) pa_nil))) (pss_cons (ps_for PassesOwn.never rfl (pi_list (pv 0)) (pg_name (i := 2) sc_sublists.nd rfl (Or.inr rfl)) (pss_one (ps_set (i := 1) sc_sublists.nd rfl (Or.inl rfl) (pe_op op_cat (pv 1) (pe_lc (own := [("some", 3)]) rfl sc_sublists.nd (pi_list (pv 1)) (blkOk_by (own := [("some", 3)]) (N := ["names", "found", "name", "some"]) (sc := defScope s_sublists) (by decide +kernel)) (fun _ _ _ _ _ => (pg_name (i := 3) sc_sublists.nd rfl (Or.inl rfl))) (fun _ _ _ _ _ => pts_nil) (fun _ _ _ _ _ => (pe_op op_cat (pv 3) (pe_lst (pa_cons (pv 2) pa_nil))))))))) (pss_one (ps_ret (pv 1)))), fun (xs : List Str) ds L M h => ?_⟩)
  obtain ⟨rfl, hl⟩ := h
  walk_at "sy"
  refine e_lst ?_
  walk_at "sy"
  refine e_lst ?_
  walk_at "sy"
  refine ⟨by simp, ?_⟩
  walk_at "sy"
  refine ⟨by simp, ?_⟩
  walk_at "sy"
  refine ⟨fun i Γ' M' => (∃ l u v, Γ' = [some (.lst (dStrs xs)), some (.lst (dSubs l)), u, v] ∧ l.length = 2 ^ i ∧ ∀ s ∈ l, s.length ≤ i) ∧ M' = M, ⟨⟨[[]], none, none, rfl, rfl, by simp⟩, rfl⟩, ?_, ?_⟩
  · rintro i d Γ' M' hd ⟨⟨l, u, v, rfl, h1, h2⟩, rfl⟩
    unfold dStrs at hd
    rw [List.getElem?_map] at hd
    cases q : xs[i]? with
    | none => rw [q] at hd; cases hd
    | some x =>
      rw [q] at hd
      cases hd
      have hi := (List.getElem?_eq_some_iff.mp q).1
      have h3 : 2 ^ i ≤ 2 ^ 9 := Nat.pow_le_pow_right (by decide) (by omega)
      walk_at "sy"
      refine e_lcM (α := List Str) (wo_name (by decide)) ?_
      walk_at "sy"
      refine ⟨l, fun s => .lst (dStrs s), fun _ => true, fun s => .lst (dStrs (s ++ [x])), rfl, by omega, fun s hs => ?_, ?_⟩
      · intro M' l'
        walk_at "sy"
        refine ⟨rfl, ?_⟩
        walk_at "sy"
        refine ⟨rfl, rfl, fun _ => ?_⟩
        walk_at "sy"
        refine e_lst ?_
        walk_at "sy"
        refine ⟨by simp, ?_⟩
        walk_at "sy"
        have := h2 s hs
        refine o_cat rfl rfl (by simp [dStrs]; omega) ⟨?_, rfl⟩
        show Dt.lst (dStrs s ++ [Dt.s x]) = Dt.lst (dStrs (s ++ [x]))
        rw [dStrs_app]
        rfl
      · walk_at "sy"
        refine o_cat rfl rfl (by rw [filter_tt]; simp [dSubs]; omega) ?_
        walk_at "sy"
        refine ⟨⟨l ++ l.map fun s => s ++ [x], some (.s x), v, ?_, ?_, ?_⟩, rfl⟩
        · show [_, some (Dt.lst (dSubs l ++ ((l.filter fun _ => true).map fun s => Dt.lst (dStrs (s ++ [x]))))), _, _] = _
          rw [filter_tt]
          have e : dSubs (l ++ l.map fun s => s ++ [x]) = dSubs l ++ l.map fun s => Dt.lst (dStrs (s ++ [x])) := by
            unfold dSubs
            rw [List.map_append, List.map_map]
            rfl
          rw [e]
        · rw [List.length_append, List.length_map, h1, Nat.pow_succ]
          omega
        · intro s hs
          rcases List.mem_append.mp hs with z | z
          · have := h2 s z
            omega
          · obtain ⟨s', z1, rfl⟩ := List.mem_map.mp z
            have := h2 s' z1
            simp
            omega
  · rintro Γ' M' ⟨⟨l, u, v, rfl, h1, h2⟩, rfl⟩
    walk_at "sy"
    refine ⟨rfl, l, rfl, ?_⟩
    have h3 : 2 ^ (dStrs xs).length ≤ 2 ^ 10 := Nat.pow_le_pow_right (by decide) (by simp [dStrs]; omega)
    rw [h1]
    omega
theorem ok_implies (T : Tx K mg) (D : Df K mg "implies" s_implies) (cS : Cal P w K mg base 1 "sublists" S_sublists.sp []) (cA : Cal P w K mg base 1 "ascending" S_ascending.sp []) (cN : Cal P w K mg base 6 "names_in" (S_names_in 5).sp []) (cH : Cal P w K mg base 6 "tree_holds" (S_holds 5).sp []) : Cal P w K mg base 7 "implies" S_implies.sp [] := by
  refine cal_sym D sc_implies (fun _ _ _ _ _ _ us hl => match us, hl with | [_, _], _ => rfl) (fun a ds L M h => by obtain ⟨rfl, _⟩ := h; rfl) (fun f cdv A outer s H E hr => ⟨_, pss_cons (ps_for PassesOwn.never rfl (pi_list (pe_c cS hr (by omega) rfl (pa_cons (pe_c cA hr (by omega) rfl (pa_cons (pe_op op_cat (pe_c cN hr (by omega) rfl (pa_cons (pv 0) pa_nil)) (pe_c cN hr (by omega) rfl (pa_cons (pv 1) pa_nil))) pa_nil)) pa_nil))) (pg_name (i := 2) sc_implies.nd rfl (Or.inl rfl)) (pss_one (ps_if (PW.pt (pw_and (pt_val (pe_c cH hr (by omega) rfl (pa_cons (pv 0) (pa_cons (pv 2) pa_nil)))) (pw_and1 (pt_not (pt_val (pe_c cH hr (by omega) rfl (pa_cons (pv 1) (pa_cons (pv 2) pa_nil)))))))) (pss_one (ps_ret pe_bl)) pss_nil))) (pss_one (ps_ret pe_bl)), fun (t : Tr) ds L M h => ?_⟩)
  obtain ⟨rfl, h1, h2⟩ := h
  walk_at "sy"
  refine ⟨t, ⟨rfl, h1, by show t.names.length ≤ 100; omega⟩, ?_⟩
  rintro d M' ⟨rfl, rfl⟩
  walk_at "sy"
  refine ⟨t, ⟨rfl, h1, by show t.names.length ≤ 100; omega⟩, ?_⟩
  rintro d M' ⟨rfl, rfl⟩
  walk_at "sy"
  refine o_cat rfl rfl (by simp [dStrs]; omega) ?_
  walk_at "sy"
  refine ⟨t.names ++ t.names, ⟨by rw [dStrs_app], by rw [List.length_append]; omega⟩, ?_⟩
  rintro d M' ⟨rfl, ys, rfl, _, _, hy⟩
  rw [List.length_append] at hy
  walk_at "sy"
  refine ⟨ys, ⟨rfl, by omega⟩, ?_⟩
  rintro d M' ⟨rfl, l, rfl, hl⟩
  walk_at "sy"
  refine ⟨fun i Γ' M' => (∃ u, Γ' = [some t.d, some t.d, u]) ∧ M' = M, ⟨⟨none, rfl⟩, rfl⟩, ?_, ?_⟩
  · rintro i d Γ' M' hd ⟨⟨u, rfl⟩, rfl⟩
    unfold dSubs at hd
    rw [List.getElem?_map] at hd
    cases q : l[i]? with
    | none => rw [q] at hd; cases hd
    | some s =>
      rw [q] at hd
      cases hd
      walk_at "sy"
      refine ⟨(t, true, s), ⟨rfl, h1⟩, ?_⟩
      rintro d M' ⟨rfl, rfl⟩
      refine ⟨_, rfl, iB (fun e => ?_) (fun e => ?_)⟩
      · walk_at "sy"
        refine ⟨(t, true, s), ⟨rfl, h1⟩, ?_⟩
        rintro d M' ⟨rfl, rfl⟩
        refine ⟨_, rfl, iF (by show (!t.holds s) = false; rw [show t.holds s = true from e]; rfl) ?_⟩
        walk_at "sy"
        exact ⟨⟨_, rfl⟩, rfl⟩
      · refine iF rfl ?_
        walk_at "sy"
        exact ⟨⟨_, rfl⟩, rfl⟩
  · rintro Γ' M' ⟨⟨u, rfl⟩, rfl⟩
    walk_at "sy"
    exact ⟨rfl, rfl⟩
/-! ### Condition -/
abbrev S_Cinit (K : PySem.W.Frag) : FS := initS (cl K "Condition") Tr (fun t => [t.d]) (fun _ _ => True) (fun t => fCond t.d)
abbrev S_Cof (K : PySem.W.Frag) : FS := pureS Str (fun x => [.s x]) NameOk (fun x => dCond K (.is x))
abbrev S_Calways (K : PySem.W.Frag) : FS := pureS Unit (fun _ => []) (fun _ => True) (fun _ => dCond K .alw)
abbrev S_Cnever (K : PySem.W.Frag) : FS := pureS Unit (fun _ => []) (fun _ => True) (fun _ => dCond K .nev)
abbrev S_Cnames (K : PySem.W.Frag) : FS := ⟨Tr, fun t ds _ _ => ds = [dCond K t] ∧ t.depth ≤ 5 ∧ t.names.length ≤ 32, fun t M d M' => M = M' ∧ ∃ ys, d = .lst (dStrs ys) ∧ ∀ y ∈ ys, y ∈ t.names⟩
abbrev S_Ccall (K : PySem.W.Frag) : FS := pureS (Tr × Bool × List Str) (fun a => [dCond K a.1, dNm a.2.1 a.2.2]) (fun a => a.1.depth ≤ 5) (fun a => .b (a.1.holds a.2.2))
abbrev S_Cand (K : PySem.W.Frag) : FS := pureS (Tr × Tr) (fun a => [dCond K a.1, dCond K a.2]) (fun _ => True) (fun a => dCond K (.an a.1 a.2))
abbrev S_Cor (K : PySem.W.Frag) : FS := pureS (Tr × Tr) (fun a => [dCond K a.1, dCond K a.2]) (fun _ => True) (fun a => dCond K (.or a.1 a.2))
abbrev S_Cinv (K : PySem.W.Frag) : FS := pureS Tr (fun a => [dCond K a]) (fun _ => True) (fun a => dCond K (.nt a))
abbrev S_Ceq (K : PySem.W.Frag) : FS := pureS Tr (fun t => [dCond K t, dCond K t]) (fun t => t.depth ≤ 5 ∧ t.names.length ≤ 5) (fun _ => .b true)
section
theorem ok_Cinit (T : Tx K mg) (D : Mi K mg "Condition" (cl K "Condition") "Condition.__init__" s_Condition___init__ []) : Mak P w K mg base 1 "Condition" (cl K "Condition") (S_Cinit K).sp [] := by
  refine mak_sym D sc_Condition___init__ (fun _ _ _ _ _ _ us hl => match us, hl with | [_, _], _ => rfl) (fun a ds L M h => by obtain ⟨rfl, _⟩ := h; rfl) (fun f cdv A outer s H E hr => ⟨_, pss_one (ps_fld (pv 0) (pv 1) rfl), fun (x, t) ds L M h => ?_⟩)
  obtain ⟨rfl, hM, _⟩ := h
  walk_at "sy"
  exact ⟨x, _, [], rfl, hM, T.cCond, T.n_tree, by simp, rfl, rfl⟩
theorem ok_Cof (T : Tx K mg) (D : Ms K (cl K "Condition") "of" "Condition.of" s_Condition_of) (cN : Cal P w K mg base 1 "is_name" S_is_name.sp []) (kC : Mak P w K mg base 1 "Condition" (cl K "Condition") (S_Cinit K).sp []) : Smt P w K mg base 3 (cl K "Condition") "of" (S_Cof K).sp := by
  refine smt_sym D sc_Condition_of (fun _ _ _ _ _ _ us hl => match us, hl with | [_], _ => rfl) (fun a ds L M h => by obtain ⟨rfl, _⟩ := h; rfl) (fun f cdv A outer s H E hr => ⟨_, pss_cons (ps_if (pt_not (pt_val (pe_c cN hr (by omega) rfl (pa_cons (pv 0) pa_nil)))) (pss_one ps_never) pss_nil) (pss_one (ps_ret (pe_mk kC hr (by omega) rfl (pa_cons (pe_tup (pa_cons pe_str (pa_cons (pv 0) pa_nil))) pa_nil)))), fun (x : Str) ds L M h => ?_⟩)
  obtain ⟨rfl, h1⟩ := h
  walk_at "sy"
  refine ⟨x, ⟨rfl, h1⟩, ?_⟩
  rintro d M' ⟨rfl, rfl⟩
  refine ⟨_, rfl, iF rfl ?_⟩
  walk_at "sy"
  refine e_init (fun _ => repL_nil) ?_
  walk_at "sy"
  refine ⟨by simp, ?_⟩
  walk_at "sy"
  exact ⟨.is x, rfl, True.intro, rfl, rfl⟩
theorem ok_Calways (T : Tx K mg) (D : Ms K (cl K "Condition") "always" "Condition.always" s_Condition_always) (kC : Mak P w K mg base 1 "Condition" (cl K "Condition") (S_Cinit K).sp []) : Smt P w K mg base 3 (cl K "Condition") "always" (S_Calways K).sp := by
  refine smt_sym D sc_Condition_always (fun _ _ _ _ _ _ us hl => match us, hl with | [], _ => rfl) (fun a ds L M h => by obtain ⟨rfl, _⟩ := h; rfl) (fun f cdv A outer s H E hr => ⟨_, pss_one (ps_ret (pe_mk kC hr (by omega) rfl (pa_cons (pe_tup (pa_cons pe_str pa_nil)) pa_nil))), fun x ds L M h => ?_⟩)
  obtain ⟨rfl, h1⟩ := h
  walk_at "sy"
  refine e_init (fun _ => repL_nil) ?_
  walk_at "sy"
  refine ⟨by simp, ?_⟩
  walk_at "sy"
  exact ⟨.alw, rfl, True.intro, rfl, rfl⟩
theorem ok_Cnever (T : Tx K mg) (D : Ms K (cl K "Condition") "never" "Condition.never" s_Condition_never) (kC : Mak P w K mg base 1 "Condition" (cl K "Condition") (S_Cinit K).sp []) : Smt P w K mg base 3 (cl K "Condition") "never" (S_Cnever K).sp := by
  refine smt_sym D sc_Condition_never (fun _ _ _ _ _ _ us hl => match us, hl with | [], _ => rfl) (fun a ds L M h => by obtain ⟨rfl, _⟩ := h; rfl) (fun f cdv A outer s H E hr => ⟨_, pss_one (ps_ret (pe_mk kC hr (by omega) rfl (pa_cons (pe_tup (pa_cons pe_str pa_nil)) pa_nil))), fun x ds L M h => ?_⟩)
  obtain ⟨rfl, h1⟩ := h
  walk_at "sy"
  refine e_init (fun _ => repL_nil) ?_
  walk_at "sy"
  refine ⟨by simp, ?_⟩
  walk_at "sy"
  exact ⟨.nev, rfl, True.intro, rfl, rfl⟩
theorem ok_Cnames (T : Tx K mg) (D : Md K (cl K "Condition") "names" "Condition.names" s_Condition_names) (cA : Cal P w K mg base 1 "ascending" S_ascending.sp []) (cN : Cal P w K mg base 6 "names_in" (S_names_in 5).sp []) : Met P w K mg base 7 (cl K "Condition") "names" (S_Cnames K).sp [] := by
  refine met_sym T.cCond D sc_Condition_names (fun _ _ _ _ _ _ us hl => match us, hl with | [_], _ => rfl) (fun a ds L M h => by obtain ⟨rfl, _⟩ := h; rfl) (fun f cdv A outer s H E hr => ⟨_, pss_one (ps_ret (pe_c cA hr (by omega) rfl (pa_cons (pe_c cN hr (by omega) rfl (pa_cons (pe_fld (pv 0) rfl) pa_nil)) pa_nil))), fun (t : Tr) ds L M h => ?_⟩)
  obtain ⟨rfl, h1, h2⟩ := h
  walk_at "sy"
  refine ⟨_, _, t.d, rfl, T.cCond, T.n_tree, rfl, ?_⟩
  walk_at "sy"
  refine ⟨t, ⟨rfl, h1, by show t.names.length ≤ 100; omega⟩, ?_⟩
  rintro d M' ⟨rfl, rfl⟩
  walk_at "sy"
  refine ⟨t.names, ⟨rfl, h2⟩, ?_⟩
  rintro d M' ⟨rfl, ys, rfl, h3, _, _⟩
  exact ⟨rfl, ys, rfl, h3⟩
theorem ok_Ccall (T : Tx K mg) (D : Md K (cl K "Condition") "__call__" "Condition.__call__" s_Condition___call__) (cH : Cal P w K mg base 6 "tree_holds" (S_holds 5).sp []) : Dun P w K mg base 7 (cl K "Condition") "__call__" (S_Ccall K).sp := by
  refine dun_sym D sc_Condition___call__ (fun _ _ _ _ _ _ us hl => match us, hl with | [_, _], _ => rfl) (fun a ds L M h => by obtain ⟨rfl, _⟩ := h; rfl) (fun f cdv A outer s H E hr => ⟨_, pss_one (ps_ret (pe_c cH hr (by omega) rfl (pa_cons (pe_fld (pv 0) rfl) (pa_cons (pv 1) pa_nil)))), fun (t, b, ns) ds L M h => ?_⟩)
  obtain ⟨rfl, h1⟩ := h
  walk_at "sy"
  refine ⟨_, _, t.d, rfl, T.cCond, T.n_tree, rfl, ?_⟩
  walk_at "sy"
  refine ⟨(t, b, ns), ⟨rfl, h1⟩, ?_⟩
  rintro d M' ⟨rfl, rfl⟩
  exact ⟨rfl, rfl⟩
theorem ok_Cand (T : Tx K mg) (D : Md K (cl K "Condition") "__and__" "Condition.__and__" s_Condition___and__) (kC : Mak P w K mg base 1 "Condition" (cl K "Condition") (S_Cinit K).sp []) : Dun P w K mg base 3 (cl K "Condition") "__and__" (S_Cand K).sp := by
  refine dun_sym D sc_Condition___and__ (fun _ _ _ _ _ _ us hl => match us, hl with | [_, _], _ => rfl) (fun a ds L M h => by obtain ⟨rfl, _⟩ := h; rfl) (fun f cdv A outer s H E hr => ⟨_, pss_cons (ps_if (pt_not (pt_val (pe_callB (C8.call_isC T.i_Condition) (by rfl) T.f_isinstance (by decide +kernel) (pa_cons (pv 1) (pa_cons (pe_gr rfl T.g_Condition) pa_nil))))) (pss_one ps_never) pss_nil) (pss_one (ps_ret (pe_mk kC hr (by omega) rfl (pa_cons (pe_tup (pa_cons pe_str (pa_cons (pe_fld (pv 0) rfl) (pa_cons (pe_fld (pv 1) rfl) pa_nil)))) pa_nil)))), fun (t, u) ds L M h => ?_⟩)
  obtain ⟨rfl, h1⟩ := h
  walk_at "sy"
  refine c_isC ⟨_, rfl⟩ ?_
  refine ⟨_, rfl, iF rfl ?_⟩
  walk_at "sy"
  refine e_init (fun _ => repL_nil) ?_
  walk_at "sy"
  refine ⟨_, _, t.d, rfl, T.cCond, T.n_tree, rfl, ?_⟩
  walk_at "sy"
  refine ⟨_, _, u.d, rfl, T.cCond, T.n_tree, rfl, ?_⟩
  walk_at "sy"
  refine ⟨by simp, ?_⟩
  walk_at "sy"
  exact ⟨.an t u, rfl, True.intro, rfl, rfl⟩
theorem ok_Cor (T : Tx K mg) (D : Md K (cl K "Condition") "__or__" "Condition.__or__" s_Condition___or__) (kC : Mak P w K mg base 1 "Condition" (cl K "Condition") (S_Cinit K).sp []) : Dun P w K mg base 3 (cl K "Condition") "__or__" (S_Cor K).sp := by
  refine dun_sym D sc_Condition___or__ (fun _ _ _ _ _ _ us hl => match us, hl with | [_, _], _ => rfl) (fun a ds L M h => by obtain ⟨rfl, _⟩ := h; rfl) (fun f cdv A outer s H E hr => ⟨_, pss_cons (ps_if (pt_not (pt_val (pe_callB (C8.call_isC T.i_Condition) (by rfl) T.f_isinstance (by decide +kernel) (pa_cons (pv 1) (pa_cons (pe_gr rfl T.g_Condition) pa_nil))))) (pss_one ps_never) pss_nil) (pss_one (ps_ret (pe_mk kC hr (by omega) rfl (pa_cons (pe_tup (pa_cons pe_str (pa_cons (pe_fld (pv 0) rfl) (pa_cons (pe_fld (pv 1) rfl) pa_nil)))) pa_nil)))), fun (t, u) ds L M h => ?_⟩)
  obtain ⟨rfl, h1⟩ := h
  walk_at "sy"
  refine c_isC ⟨_, rfl⟩ ?_
  refine ⟨_, rfl, iF rfl ?_⟩
  walk_at "sy"
  refine e_init (fun _ => repL_nil) ?_
  walk_at "sy"
  refine ⟨_, _, t.d, rfl, T.cCond, T.n_tree, rfl, ?_⟩
  walk_at "sy"
  refine ⟨_, _, u.d, rfl, T.cCond, T.n_tree, rfl, ?_⟩
  walk_at "sy"
  refine ⟨by simp, ?_⟩
  walk_at "sy"
  exact ⟨.or t u, rfl, True.intro, rfl, rfl⟩
theorem ok_Cinv (T : Tx K mg) (D : Md K (cl K "Condition") "__invert__" "Condition.__invert__" s_Condition___invert__) (kC : Mak P w K mg base 1 "Condition" (cl K "Condition") (S_Cinit K).sp []) : Dun P w K mg base 3 (cl K "Condition") "__invert__" (S_Cinv K).sp := by
  refine dun_sym D sc_Condition___invert__ (fun _ _ _ _ _ _ us hl => match us, hl with | [_], _ => rfl) (fun a ds L M h => by obtain ⟨rfl, _⟩ := h; rfl) (fun f cdv A outer s H E hr => ⟨_, pss_one (ps_ret (pe_mk kC hr (by omega) rfl (pa_cons (pe_tup (pa_cons pe_str (pa_cons (pe_fld (pv 0) rfl) pa_nil))) pa_nil))), fun (t : Tr) ds L M h => ?_⟩)
  obtain ⟨rfl, h1⟩ := h
  walk_at "sy"
  refine e_init (fun _ => repL_nil) ?_
  walk_at "sy"
  refine ⟨_, _, t.d, rfl, T.cCond, T.n_tree, rfl, ?_⟩
  walk_at "sy"
  refine ⟨by simp, ?_⟩
  walk_at "sy"
  exact ⟨.nt t, rfl, True.intro, rfl, rfl⟩
theorem ok_Ceq (T : Tx K mg) (D : Md K (cl K "Condition") "__eq__" "Condition.__eq__" s_Condition___eq__) (cI : Cal P w K mg base 7 "implies" S_implies.sp []) : Dun P w K mg base 8 (cl K "Condition") "__eq__" (S_Ceq K).sp := by
  refine dun_sym D sc_Condition___eq__ (fun _ _ _ _ _ _ us hl => match us, hl with | [_, _], _ => rfl) (fun a ds L M h => by obtain ⟨rfl, _⟩ := h; rfl) (fun f cdv A outer s H E hr => ⟨_, pss_cons (ps_if (pt_not (pt_val (pe_callB (C8.call_isC T.i_Condition) (by rfl) T.f_isinstance (by decide +kernel) (pa_cons (pv 1) (pa_cons (pe_gr rfl T.g_Condition) pa_nil))))) (pss_one (ps_ret pe_bl)) pss_nil) (pss_one (ps_ret (pe_and (pe_c cI hr (by omega) rfl (pa_cons (pe_fld (pv 0) rfl) (pa_cons (pe_fld (pv 1) rfl) pa_nil))) (pe_one (pe_c cI hr (by omega) rfl (pa_cons (pe_fld (pv 1) rfl) (pa_cons (pe_fld (pv 0) rfl) pa_nil))))))), fun (t : Tr) ds L M h => ?_⟩)
  obtain ⟨rfl, h1⟩ := h
  walk_at "sy"
  refine c_isC ⟨_, rfl⟩ ?_
  refine ⟨_, rfl, iF rfl ?_⟩
  walk_at "sy"
  refine ⟨_, _, t.d, rfl, T.cCond, T.n_tree, rfl, ?_⟩
  walk_at "sy"
  refine ⟨_, _, t.d, rfl, T.cCond, T.n_tree, rfl, ?_⟩
  walk_at "sy"
  refine ⟨t, ⟨rfl, h1⟩, ?_⟩
  rintro d M' ⟨rfl, rfl⟩
  refine ⟨_, rfl, iT rfl ?_⟩
  walk_at "sy"
  refine ⟨_, _, t.d, rfl, T.cCond, T.n_tree, rfl, ?_⟩
  walk_at "sy"
  refine ⟨_, _, t.d, rfl, T.cCond, T.n_tree, rfl, ?_⟩
  walk_at "sy"
  refine ⟨t, ⟨rfl, h1⟩, ?_⟩
  rintro d M' ⟨rfl, rfl⟩
  exact ⟨rfl, rfl⟩
end
end
end K85
set_option maxRecDepth 100000
set_option maxHeartbeats 4000000
/-! outcomes, actions -/
namespace K85
open PySem L2
open C8 (Cal Met Mak pe_c pe_mk pe_mt pe_mt0 pe_gc)
local macro_rules | `(tactic| walk_at "sy1") => `(tactic| with_reducible first
  | refine r_seq ?_ | refine r_if ?_ | refine r_ret ?_ | refine r_retN ?_ | refine r_asg ?_ | refine r_drop ?_ | refine r_brk ?_ | refine r_cont ?_ | refine r_fld ?_ | refine r_dput ?_ | refine r_for ?_ | refine r_next ?_
  | refine g_name ?_ | refine g_tup ?_ | refine g_unl ?_ | refine g_cons ?_ | refine g_nil ?_
  | refine t_test ?_ | refine t_B ?_ | refine t_not ?_ | refine t_and ?_ | refine t_or ?_ | refine t_yes ?_
  | refine e_var rfl ?_ | refine e_int ?_ | refine e_str ?_ | refine e_bl ?_ | refine e_non ?_ | refine e_ref ?_ | refine e_op ?_ | refine e_un ?_ | refine e_andV ?_ | refine e_orV ?_ | refine e_notV ?_ | refine e_if ?_ | refine e_isN ?_ | refine e_notN ?_
  | refine e_tup ?_ | refine e_fld ?_ | refine e_call0 ?_ | refine e_meth0 ?_ | refine e_cb ?_ | refine e_bm ?_ | refine e_dget ?_ | refine e_dget1 ?_ | refine e_din ?_ | refine e_dnotin ?_ | refine e_chain ?_ | refine e_fcall ?_ | refine e_sm ?_
  | refine a_nil ?_ | refine a_cons ?_ | refine i_list ?_ | refine i_tup ?_ | refine i_seq ?_ | refine i_rng1 ?_ | refine i_str ?_
  | refine s_none ?_ | refine s_some ?_ | refine e_slL ?_ | refine e_slT ?_
  | refine o_II ?_ | refine o_IB ?_)
local macro_rules | `(tactic| walk_at "sy") => `(tactic| repeat (first | walk_at "sy1" | refine ⟨_, rfl, ?_⟩ | refine ⟨(rfl : List.lookup _ _ = none), ?_⟩))
local macro_rules | `(tactic| walk_at "eqF") => `(tactic| (refine o_eq rfl rfl rfl ?_; walk_at "sy"; refine iF (by decide +kernel) ?_; walk_at "sy"))
local macro_rules | `(tactic| walk_at "eqT") => `(tactic| (refine o_eq rfl rfl rfl ?_; walk_at "sy"; refine iT (by decide +kernel) ?_; walk_at "sy"))
local macro_rules | `(tactic| walk_at "pureEnd") => `(tactic| (rintro d M' ⟨rfl, rfl⟩))
abbrev s_check_change : Stmt := top 43
theorem sc_check_change : FnScope ["name", "change"] ["name", "change"] (defScope s_check_change) := ⟨rfl, rfl, rfl, by decide +kernel, rfl, by decide +kernel, by decide +kernel⟩
abbrev s_Outcome___init__ : Stmt := inClass (top 44) 0
theorem sc_Outcome___init__ : FnScope ["self", "changes", "name"] ["self", "changes"] (defScope s_Outcome___init__) := ⟨rfl, rfl, rfl, by decide +kernel, rfl, by decide +kernel, by decide +kernel⟩
abbrev s_Outcome_names : Stmt := inClass (top 44) 1
theorem sc_Outcome_names : FnScope ["self"] ["self"] (defScope s_Outcome_names) := ⟨rfl, rfl, rfl, by decide +kernel, rfl, by decide +kernel, by decide +kernel⟩
abbrev s_Outcome_copy : Stmt := inClass (top 44) 2
theorem sc_Outcome_copy : FnScope ["self"] ["self"] (defScope s_Outcome_copy) := ⟨rfl, rfl, rfl, by decide +kernel, rfl, by decide +kernel, by decide +kernel⟩
abbrev s_Outcome___getitem__ : Stmt := inClass (top 44) 3
theorem sc_Outcome___getitem__ : FnScope ["self", "name"] ["self", "name"] (defScope s_Outcome___getitem__) := ⟨rfl, rfl, rfl, by decide +kernel, rfl, by decide +kernel, by decide +kernel⟩
abbrev s_Outcome___eq__ : Stmt := inClass (top 44) 8
theorem sc_Outcome___eq__ : FnScope ["self", "other"] ["self", "other"] (defScope s_Outcome___eq__) := ⟨rfl, rfl, rfl, by decide +kernel, rfl, by decide +kernel, by decide +kernel⟩
abbrev s_Action___init__ : Stmt := inClass (top 25) 0
theorem sc_Action___init__ : FnScope ["self", "need", "outcomes", "one"] ["self", "need", "outcomes"] (defScope s_Action___init__) := ⟨rfl, rfl, rfl, by decide +kernel, rfl, by decide +kernel, by decide +kernel⟩
abbrev s_Action_outcome : Stmt := inClass (top 25) 1
theorem sc_Action_outcome : FnScope ["self", "index"] ["self", "index"] (defScope s_Action_outcome) := ⟨rfl, rfl, rfl, by decide +kernel, rfl, by decide +kernel, by decide +kernel⟩
abbrev s_Action___len__ : Stmt := inClass (top 25) 2
theorem sc_Action___len__ : FnScope ["self"] ["self"] (defScope s_Action___len__) := ⟨rfl, rfl, rfl, by decide +kernel, rfl, by decide +kernel, by decide +kernel⟩
abbrev s_check_lists : Stmt := top 27
theorem sc_check_lists : FnScope ["lists", "known", "some", "name"] ["lists"] (defScope s_check_lists) := ⟨rfl, rfl, rfl, by decide +kernel, rfl, by decide +kernel, by decide +kernel⟩
abbrev s_copied_action : Stmt := top 28
theorem sc_copied_action : FnScope ["action", "k"] ["action"] (defScope s_copied_action) := ⟨rfl, rfl, rfl, by decide +kernel, rfl, by decide +kernel, by decide +kernel⟩
abbrev s_sub_tuples : Stmt := top 29
theorem sc_sub_tuples : FnScope ["some", "rest", "one"] ["some"] (defScope s_sub_tuples) := ⟨rfl, rfl, rfl, by decide +kernel, rfl, by decide +kernel, by decide +kernel⟩
def S_check_change : FS := pureS (Str × Ch) (fun a => [.s a.1, a.2.d]) (fun a => NameOk a.1) (fun _ => .non)
structure OutOk (o : Out) : Prop where
  nm : ∀ p ∈ o, NameOk p.1
  nd : (o.map (·.1)).Nodup
  len : o.length ≤ 16
def Out.get (o : Out) (n : Str) : Option Ch := (o.find? fun p => decide (p.1 = n)).map (·.2)
abbrev S_Oinit (K : PySem.W.Frag) : FS := initS (cl K "Outcome") Out (fun o => [.dK (kOut o)]) (fun o L => OutOk o ∧ NoFlat L) (fun o => fOut (.dK (kOut o)))
abbrev S_Onames (K : PySem.W.Frag) : FS := ⟨Out, fun o ds L _ => ds = [dOut K o] ∧ OutOk o ∧ NoFlat L, fun o M d M' => M = M' ∧ ∃ ys, d = .lst (dStrs ys) ∧ ∀ y ∈ ys, y ∈ o.map (·.1)⟩
abbrev S_Ocopy (K : PySem.W.Frag) : FS := ⟨Out, fun o ds L _ => ds = [dOut K o] ∧ OutOk o ∧ NoFlat L, fun o M d M' => M = M' ∧ d = dOut K o⟩
def gD (o : Option Ch) : Dt := match o with | some c => c.d | none => .non
abbrev S_Oget (K : PySem.W.Frag) : FS := pureS (Out × Str) (fun a => [dOut K a.1, .s a.2]) (fun _ => True) (fun a => gD (a.1.get a.2))
abbrev S_Oeq (K : PySem.W.Frag) : FS := ⟨Out, fun o ds L _ => ds = [dOut K o, dOut K o] ∧ OutOk o ∧ NoFlat L, fun o M d M' => M = M' ∧ d = .b true⟩
structure ActOk (a : Act) : Prop where
  out : ∀ o ∈ a.parts, OutOk o
  ne : a.parts ≠ []
  len : a.parts.length ≤ 16
abbrev S_Ainit (K : PySem.W.Frag) : FS := initS (cl K "Action") Act (fun a => [dCond K a.need, .lst (a.parts.map (dOut K))]) (fun a L => ActOk a ∧ NoFlat L) (fun a => fAct (dCond K a.need) (.lst (a.parts.map (dOut K))))
abbrev S_Aout (K : PySem.W.Frag) : FS := ⟨Act × Nat, fun a ds L _ => ds = [dAct K a.1, .i (a.2 : Nat)] ∧ ActOk a.1 ∧ NoFlat L ∧ a.2 < a.1.parts.length, fun a M d M' => M = M' ∧ ∃ o, a.1.parts[a.2]? = some o ∧ d = dOut K o⟩
abbrev S_Alen (K : PySem.W.Frag) : FS := pureS Act (fun a => [dAct K a]) (fun _ => True) (fun a => .i (a.parts.length : Nat))
section
variable {P : Program} {w : World} {K : PySem.W.Frag} {mg : Str → Option Value} {base : Heap}
theorem kOut_look (o : Out) (n : Str) : lookA (kOut o) n = (o.get n).map Ch.d := by
  unfold lookA kOut Out.get
  induction o with
  | nil => rfl
  | cons p o ih =>
    rw [List.map_cons, List.find?_cons, List.find?_cons]
    by_cases h : p.1 = n
    · simp [h]
    · simp only [h, decide_false]
      exact ih
theorem get_at {o : Out} (nd : (o.map (·.1)).Nodup) {i : Nat} {p : Str × Ch} (h : o[i]? = some p) : o.get p.1 = some p.2 := by
  unfold Out.get
  induction o generalizing i with
  | nil => simp at h
  | cons q o ih =>
    rw [List.find?_cons]
    cases i with
    | zero =>
      simp at h
      subst h
      simp
    | succ i =>
      simp at h
      rw [List.map_cons, List.nodup_cons] at nd
      have hm : p.1 ∈ o.map (·.1) := List.mem_map.mpr ⟨p, List.mem_of_getElem? h, rfl⟩
      have hne : q.1 ≠ p.1 := fun e => nd.1 (e ▸ hm)
      simp only [hne, decide_false]
      exact ih nd.2 h
theorem putA_new {κ : Type} [DecidableEq κ] {kvs : List (κ × Dt)} {k : κ} {v : Dt} (h : k ∉ kvs.map (·.1)) : putA kvs k v = kvs ++ [(k, v)] := by
  unfold putA
  rw [if_neg]
  simp only [List.any_eq_true, decide_eq_true_eq]
  rintro ⟨kv, h1, h2⟩
  exact h (List.mem_map.mpr ⟨kv, h1, h2⟩)
theorem kOut_flat (o : Out) : ∀ kv ∈ kOut o, (fV kv.2).isSome = true := fun kv h => by
  obtain ⟨p, _, rfl⟩ := List.mem_map.mp h
  show (fV p.2.d).isSome = true
  rw [Ch.fv]
  rfl
theorem kOut_keys (o : Out) : (kOut o).map (·.1) = o.map (·.1) := by
  unfold kOut
  rw [List.map_map]
  rfl
theorem keys_out (o : Out) : keysD (.dK (kOut o)) = o.map fun p => Dt.s p.1 := by
  show (kOut o).map (fun kv => Dt.s kv.1) = _
  unfold kOut
  rw [List.map_map]
  rfl
theorem at_map {α β : Type} {f : α → β} {l : List α} {i : Nat} {k : β} (h : (l.map f)[i]? = some k) : ∃ a, l[i]? = some a ∧ k = f a := by
  rw [List.getElem?_map] at h
  cases q : l[i]? with
  | none => rw [q] at h; cases h
  | some a =>
    rw [q] at h
    cases h
    exact ⟨a, rfl, rfl⟩
theorem dOut_dK {o : Out} : (∃ kvs, Dt.dK (kOut o) = .dK kvs) ∨ ∃ kvs, Dt.dK (kOut o) = .dT kvs := .inl ⟨_, rfl⟩
theorem ok_check_change (T : Tx K mg) (D : Df K mg "check_change" s_check_change) (cN : Cal P w K mg base 1 "is_name" S_is_name.sp []) : Cal P w K mg base 2 "check_change" S_check_change.sp [] := by
  refine cal_sym D sc_check_change (fun _ _ _ _ _ _ us hl => match us, hl with | [_, _], _ => rfl) (fun a ds L M h => by obtain ⟨rfl, _⟩ := h; rfl) (fun f cdv A outer s H E hr => ⟨_, pss_cons (ps_if (pt_not (pt_val (pe_c cN hr (by omega) rfl (pa_cons (pv 0) pa_nil)))) (pss_one ps_never) pss_nil) (pss_one (ps_if (PW.pt (pw_and (pt_cmpR op_notB3 (pv 1) pe_bl (nomark _)) (pw_and (pt_cmpR op_notB3 (pv 1) pe_bl (nomark _)) (pw_and1 (pt_cmpR op_notIn_seq (pv 1) (pe_tup (pa_cons pe_str (pa_cons pe_str (pa_cons pe_str pa_nil)))) rfl))))) (pss_one ps_never) pss_nil)), fun (x, c) ds L M h => ?_⟩)
  obtain ⟨rfl, h1⟩ := h
  walk_at "sy"
  refine ⟨x, ⟨rfl, h1⟩, ?_⟩
  rintro d M' ⟨rfl, rfl⟩
  refine ⟨_, rfl, iF rfl ?_⟩
  walk_at "sy"
  refine o_isB c.fv (by cases c <;> rfl) ⟨_, rfl, iB (fun e1 => ?_) (fun e1 => iF rfl ?_)⟩
  · walk_at "sy"
    refine o_isB c.fv (by cases c <;> rfl) ⟨_, rfl, iB (fun e2 => ?_) (fun e2 => iF rfl ?_)⟩
    · walk_at "sy"
      have hc : ∃ z, c.d = .s z ∧ z ∈ (["add", "take", "empty"] : List Str) := by
        cases c with
        | tru => exact absurd e1 (by decide +kernel)
        | fls => exact absurd e2 (by decide +kernel)
        | add => exact ⟨_, rfl, by simp⟩
        | take => exact ⟨_, rfl, by simp⟩
        | emp => exact ⟨_, rfl, by simp⟩
      obtain ⟨z, e, hz⟩ := hc
      rw [e]
      refine ⟨by simp, ?_⟩
      refine o_inS (xs := ["add", "take", "empty"]) (.inr rfl) ⟨_, rfl, iF ?_ ?_⟩
      · simp only [if_true]
        rw [decide_eq_true hz]
        rfl
      · walk_at "sy"
        exact ⟨rfl, rfl⟩
    · walk_at "sy"
      exact ⟨rfl, rfl⟩
  · walk_at "sy"
    exact ⟨rfl, rfl⟩
theorem ok_Oinit (T : Tx K mg) (D : Mi K mg "Outcome" (cl K "Outcome") "Outcome.__init__" s_Outcome___init__ [.non]) (cC : Cal P w K mg base 2 "check_change" S_check_change.sp []) : Mak P w K mg base 3 "Outcome" (cl K "Outcome") (S_Oinit K).sp [] := by
  refine mak_symD (n := 2) (j := 1) D sc_Outcome___init__ (fun z => nomatch z) rfl (fun _ _ _ _ _ _ _ us its hl hi => match us, its, hl, hi with | [_, _], [_], _, _ => ⟨_, rfl, rfl⟩) (fun a ds L M h => by obtain ⟨rfl, _⟩ := h; rfl) (fun f cdv A outer s H E hr => ⟨_, pss_cons (ps_fld (pv 0) pe_dnewK rfl) (pss_one (ps_if (pt_cmp (pc_notN (pv 1)) rfl) (pss_one (ps_lock (ps_for PassesOwn.never rfl (pi_keys (pv 1)) (pg_name (i := 2) sc_Outcome___init__.nd rfl (Or.inl rfl)) (pss_cons (ps_expr (pe_c cC hr (by omega) rfl (pa_cons (pv 2) (pa_cons (pe_dget (hu_of hr) (pv 1) (pv 2) (fun _ _ => rfl)) pa_nil)))) (pss_one (ps_dput (hu_of hr) (pe_fld (pv 0) rfl) (pv 2) (pe_dget (hu_of hr) (pv 1) (pv 2) (fun _ _ => rfl)) rfl)))))) pss_nil)), fun (x, o) ds L M h => ?_⟩)
  obtain ⟨rfl, hM, hO, hL⟩ := h
  refine Run.post ?_
  walk_at "sy"
  refine e_dnewK fun t ht => ?_
  walk_at "sy"
  have hne : t ≠ x := by
    rintro rfl
    rw [hM] at ht
    cases ht
  refine ⟨x, _, [], rfl, by rw [mset_ne hne.symm]; exact hM, T.cOut, T.n_otable, by simp, ?_⟩
  walk_at "sy"
  refine ⟨(fun e => nomatch e), fun _ => ⟨_, rfl, iT rfl ?_⟩⟩
  refine r_lockFor false dOut_dK (loc_var rfl dOut_dK) (unl_flat hL (kOut_flat o)) (lkd_f dOut_dK) fun L' a od eL hLa => ?_
  refine ⟨fun i Γ' M' => (∃ v, Γ' = [some (.adr x), some (.dK (kOut o)), v]) ∧ M' = mset (mset M x (.ins (cl K "Outcome") [("table", .adr t)])) t (.dK (kOut (o.take i))), ⟨⟨none, rfl⟩, ?_⟩, ?_, ?_⟩
  · funext b
    show mset (mset M t (Dt.dK [])) x _ b = mset (mset M x _) t _ b
    unfold mset
    by_cases h1 : b = x
    · rw [if_pos h1, if_neg (by rw [h1]; exact hne.symm), if_pos h1]
      rfl
    · rw [if_neg h1]
      by_cases h2 : b = t
      · rw [if_pos h2, if_pos h2]
        rfl
      · rw [if_neg h2, if_neg h2, if_neg h1]
  · rintro i k Γ' M' hk ⟨⟨v, rfl⟩, rfl⟩
    have hk : (keysD (.dK (kOut o)))[i]? = some k := hk
    rw [keys_out] at hk
    obtain ⟨p, q, rfl⟩ := at_map hk
    have hi := (List.getElem?_eq_some_iff.mp q).1
    have hp := List.mem_of_getElem? q
    have look : lookA (kOut o) p.1 = some p.2.d := by rw [kOut_look, get_at hO.nd q]; rfl
    show Gv L' _ _ _ (.s p.1) _
    walk_at "sy"
    refine .inl ⟨_, _, rfl, rfl, _, look, ?_⟩
    walk_at "sy"
    refine ⟨(p.1, p.2), ⟨rfl, hO.nm p hp⟩, ?_⟩
    rintro d M' ⟨rfl, rfl⟩
    walk_at "sy"
    refine .inl ⟨_, _, rfl, rfl, _, look, ?_⟩
    walk_at "sy"
    refine ⟨_, _, _, vw_adr (by rw [mset_ne hne.symm]; exact mset_same), T.cOut, T.n_otable, rfl, ?_⟩
    walk_at "sy"
    refine .inl ⟨_, _, mset_same, rfl, ?_, ?_⟩
    · have : o.length ≤ 16 := hO.len
      unfold kOut
      rw [List.length_map, List.length_take]
      omega
    · refine ⟨⟨_, rfl⟩, ?_⟩
      rw [mset_mset]
      congr 2
      rw [putA_new]
      · rw [List.take_succ_eq_append_getElem hi, (List.getElem?_eq_some_iff.mp q).2]
        unfold kOut
        rw [List.map_append]
        rfl
      · rw [kOut_keys, List.map_take]
        intro hm
        have h2 : (o.map (·.1))[i]? = some p.1 := by rw [List.getElem?_map, q]; rfl
        obtain ⟨j, hj, e⟩ := List.mem_take_iff_getElem.mp hm
        have hj' : j < (o.map (·.1)).length := by omega
        have hi' : i < (o.map (·.1)).length := by rw [List.length_map]; exact hi
        have := (List.getElem_inj (h₀ := hj') (h₁ := hi') hO.nd).mp (by rw [e, (List.getElem?_eq_some_iff.mp h2).2])
        omega
  · rintro Γ' M' ⟨⟨v, rfl⟩, rfl⟩
    refine ⟨_, VwM.fld (x := x) (t := t) (f := "table") (by rw [mset_ne hne.symm]; exact mset_same) rfl mset_same hne, rfl, ?_⟩
    rw [mdel_mset (by rw [mset_ne hne]; exact ht), mset_mset]
    have e : (keysD (Dt.dK (kOut o))).length = o.length := by rw [keys_out, List.length_map]
    rw [e, List.take_length]
    rfl
theorem ok_Onames (T : Tx K mg) (D : Md K (cl K "Outcome") "names" "Outcome.names" s_Outcome_names) (cA : Cal P w K mg base 1 "ascending" S_ascending.sp []) : Met P w K mg base 2 (cl K "Outcome") "names" (S_Onames K).sp [] := by
  refine met_sym T.cOut D sc_Outcome_names (fun _ _ _ _ _ _ us hl => match us, hl with | [_], _ => rfl) (fun a ds L M h => by obtain ⟨rfl, _⟩ := h; rfl) (fun f cdv A outer s H E hr => ⟨_, pss_one (ps_ret (pe_c cA hr (by omega) rfl (pa_cons (pe_callTy (call_list_dK rfl) (by rfl) T.f_list (by decide +kernel) (pa_cons (pe_fld (pv 0) rfl) pa_nil)) pa_nil))), fun (o : Out) ds L M h => ?_⟩)
  obtain ⟨rfl, hO, hL⟩ := h
  walk_at "sy"
  refine ⟨_, _, _, rfl, T.cOut, T.n_otable, rfl, ?_⟩
  walk_at "sy"
  refine c_listK rfl (unl_flat hL (kOut_flat o)) ?_
  walk_at "sy"
  have hl : o.length ≤ 16 := hO.len
  refine ⟨o.map (·.1), ⟨by rw [kOut_keys], by rw [List.length_map]; omega⟩, ?_⟩
  rintro d M' ⟨rfl, ys, rfl, h3, _, _⟩
  exact ⟨rfl, ys, rfl, h3⟩
theorem ok_Ocopy (T : Tx K mg) (D : Md K (cl K "Outcome") "copy" "Outcome.copy" s_Outcome_copy) (kO : Mak P w K mg base 3 "Outcome" (cl K "Outcome") (S_Oinit K).sp []) : Met P w K mg base 5 (cl K "Outcome") "copy" (S_Ocopy K).sp [] := by
  refine met_sym T.cOut D sc_Outcome_copy (fun _ _ _ _ _ _ us hl => match us, hl with | [_], _ => rfl) (fun a ds L M h => by obtain ⟨rfl, _⟩ := h; rfl) (fun f cdv A outer s H E hr => ⟨_, pss_one (ps_ret (pe_mk kO hr (by omega) rfl (pa_cons (pe_fld (pv 0) rfl) pa_nil))), fun (o : Out) ds L M h => ?_⟩)
  obtain ⟨rfl, hO, hL⟩ := h
  walk_at "sy"
  refine e_init (fun _ => repL_nil) ?_
  walk_at "sy"
  refine ⟨_, _, _, rfl, T.cOut, T.n_otable, rfl, ?_⟩
  walk_at "sy"
  exact ⟨⟨hO, hL⟩, rfl, rfl⟩
theorem ok_Oget (T : Tx K mg) (D : Md K (cl K "Outcome") "__getitem__" "Outcome.__getitem__" s_Outcome___getitem__) : Dun P w K mg base 1 (cl K "Outcome") "__getitem__" (S_Oget K).sp := by
  refine dun_sym D sc_Outcome___getitem__ (fun _ _ _ _ _ _ us hl => match us, hl with | [_, _], _ => rfl) (fun a ds L M h => by obtain ⟨rfl, _⟩ := h; rfl) (fun f cdv A outer s H E hr => ⟨_, pss_one (ps_ret (pe_dget1 (hu_of hr) (pe_fld (pv 0) rfl) (pv 1) ⟨rfl, rfl, rfl, rfl⟩)), fun (o, n) ds L M h => ?_⟩)
  obtain ⟨rfl, _⟩ := h
  walk_at "sy"
  refine ⟨_, _, _, rfl, T.cOut, T.n_otable, rfl, ?_⟩
  refine ⟨.inl ⟨_, rfl⟩, ?_⟩
  walk_at "sy"
  refine .inl ⟨_, _, rfl, rfl, ?_, rfl⟩
  rw [kOut_look]
  show _ = gD (o.get n)
  cases o.get n <;> rfl
theorem ok_Oeq (T : Tx K mg) (D : Md K (cl K "Outcome") "__eq__" "Outcome.__eq__" s_Outcome___eq__) : Dun P w K mg base 1 (cl K "Outcome") "__eq__" (S_Oeq K).sp := by
  refine dun_sym D sc_Outcome___eq__ (fun _ _ _ _ _ _ us hl => match us, hl with | [_, _], _ => rfl) (fun a ds L M h => by obtain ⟨rfl, _⟩ := h; rfl) (fun f cdv A outer s H E hr => ⟨_, pss_one (ps_ret (pe_and (pe_callB (C8.call_isC T.i_Outcome) (by rfl) T.f_isinstance (by decide +kernel) (pa_cons (pv 1) (pa_cons (pe_gr rfl T.g_Outcome) pa_nil))) (pe_one (pe_cmpR (op_eq_dictA (hu0 hr)) (pe_fld (pv 0) rfl) (pe_fld (pv 1) rfl) (nomark _))))), fun (o : Out) ds L M h => ?_⟩)
  obtain ⟨rfl, hO, hL⟩ := h
  walk_at "sy"
  refine c_isC ⟨_, rfl⟩ ?_
  refine ⟨_, rfl, iT rfl ?_⟩
  walk_at "sy"
  refine ⟨_, _, _, rfl, T.cOut, T.n_otable, rfl, ?_⟩
  walk_at "sy"
  refine ⟨_, _, _, rfl, T.cOut, T.n_otable, rfl, ?_⟩
  refine o_eqDict rfl rfl hL (fun kv h => ?_) (by rw [kOut_keys]; exact hO.nd) ⟨rfl, rfl⟩
  obtain ⟨p, _, rfl⟩ := List.mem_map.mp h
  exact ⟨_, p.2.fv, by cases p.2 <;> rfl⟩
theorem ok_Ainit (T : Tx K mg) (D : Mi K mg "Action" (cl K "Action") "Action.__init__" s_Action___init__ []) (mC : Met P w K mg base 5 (cl K "Outcome") "copy" (S_Ocopy K).sp []) : Mak P w K mg base 6 "Action" (cl K "Action") (S_Ainit K).sp [] := by
  refine mak_sym D sc_Action___init__ (fun _ _ _ _ _ _ us hl => match us, hl with | [_, _, _], _ => rfl) (fun a ds L M h => by obtain ⟨rfl, _⟩ := h; rfl) (fun f cdv A outer s H E hr => ⟨_, pss_cons (ps_if (pt_cmpR op_eq (pe_callB call_len_seq (by rfl) T.f_len (by decide +kernel) (pa_cons (pv 2) pa_nil)) pe_int (nomark _)) (pss_one ps_never) pss_nil) (pss_cons (ps_fld (pv 0) (pv 1) rfl) (pss_one (ps_fld (pv 0) (pe_lc (own := [("one", 3)]) rfl sc_Action___init__.nd (pi_list (pv 2)) (blkOk_by (own := [("one", 3)]) (N := ["self", "need", "outcomes", "one"]) (sc := defScope s_Action___init__) (by decide +kernel)) (fun _ _ _ _ _ => (pg_name (i := 3) sc_Action___init__.nd rfl (Or.inl rfl))) (fun _ _ _ _ _ => pts_nil) (fun _ _ _ _ _ => (pe_mt0 mC hr (by omega) (pv 3)))) rfl))), fun (x, a) ds L M h => ?_⟩)
  obtain ⟨rfl, hM, hA, hL⟩ := h
  have hA : ActOk a := hA
  have hM : M x = some (.ins (cl K "Action") []) := hM
  have hl : a.parts.length ≤ 16 := hA.len
  walk_at "sy"
  refine c_len (.inl rfl) ?_
  walk_at "sy"
  refine o_eq rfl rfl rfl ⟨_, rfl, iF ?_ ?_⟩
  · refine decide_eq_false fun e => ?_
    have h2 : ((a.parts.map (dOut K)).length : Int) = 0 := V.int.inj e
    rw [List.length_map] at h2
    exact hA.ne (List.eq_nil_of_length_eq_zero (by omega))
  walk_at "sy"
  refine ⟨x, _, [], rfl, hM, T.cAct, T.n_need, by simp, ?_⟩
  walk_at "sy"
  refine e_lcM (α := Out) (wo_name (by decide)) ?_
  walk_at "sy"
  refine ⟨a.parts, dOut K, fun _ => true, dOut K, rfl, by omega, fun o ho => ?_, ?_⟩
  · intro M' l
    walk_at "sy"
    refine ⟨rfl, ?_⟩
    walk_at "sy"
    refine ⟨rfl, rfl, fun _ => ?_⟩
    walk_at "sy"
    refine ⟨o, ⟨rfl, hA.out o ho, hL⟩, ?_⟩
    rintro d M2 ⟨rfl, rfl⟩
    exact ⟨rfl, rfl⟩
  · walk_at "sy"
    refine ⟨x, _, _, rfl, mset_same, T.cAct, T.n_parts, by simp [putD], ?_⟩
    rw [mset_mset, filter_tt]
    exact ⟨rfl, rfl⟩
theorem ok_Aout (T : Tx K mg) (D : Md K (cl K "Action") "outcome" "Action.outcome" s_Action_outcome) (mC : Met P w K mg base 5 (cl K "Outcome") "copy" (S_Ocopy K).sp []) : Met P w K mg base 6 (cl K "Action") "outcome" (S_Aout K).sp [] := by
  refine met_sym T.cAct D sc_Action_outcome (fun _ _ _ _ _ _ us hl => match us, hl with | [_, _], _ => rfl) (fun a ds L M h => by obtain ⟨rfl, _⟩ := h; rfl) (fun f cdv A outer s H E hr => ⟨_, pss_cons (ps_if (pt_not (pt_chain op_le op_lt pe_int (pv 1) (pe_callB call_len_seq (by rfl) T.f_len (by decide +kernel) (pa_cons (pe_fld (pv 0) rfl) pa_nil)))) (pss_one ps_never) pss_nil) (pss_one (ps_ret (pe_mt0 mC hr (by omega) (pe_ix ix_list (pe_fld (pv 0) rfl) (pv 1) (fun _ _ => rfl))))), fun (a, k) ds L M h => ?_⟩)
  obtain ⟨rfl, hA, hL, hk⟩ := h
  have hA : ActOk a := hA
  have hk : k < a.parts.length := hk
  have ho : a.parts[k]? = some a.parts[k] := List.getElem?_eq_getElem hk
  walk_at "sy"
  refine iT (decide_eq_true (Int.natCast_nonneg _)) ?_
  walk_at "sy"
  refine ⟨_, _, _, rfl, T.cAct, T.n_parts, rfl, ?_⟩
  walk_at "sy"
  refine c_len (.inl rfl) ?_
  walk_at "sy"
  refine iF (by rw [List.length_map]; simp only [Bool.not_eq_false', decide_eq_true_eq]; omega) ?_
  walk_at "sy"
  refine ⟨_, _, _, rfl, T.cAct, T.n_parts, rfl, ?_⟩
  walk_at "sy"
  refine o_ixL (d := dOut K a.parts[k]) rfl (by rw [List.getElem?_map, ho]; rfl) ?_
  refine ⟨_, rfl, rfl, ?_⟩
  walk_at "sy"
  refine ⟨a.parts[k], ⟨rfl, hA.out _ (List.getElem_mem hk), hL⟩, ?_⟩
  rintro d M2 ⟨rfl, rfl⟩
  exact ⟨rfl, _, ho, rfl⟩
theorem ok_Alen (T : Tx K mg) (D : Md K (cl K "Action") "__len__" "Action.__len__" s_Action___len__) : Dun P w K mg base 1 (cl K "Action") "__len__" (S_Alen K).sp := by
  refine dun_sym D sc_Action___len__ (fun _ _ _ _ _ _ us hl => match us, hl with | [_], _ => rfl) (fun a ds L M h => by obtain ⟨rfl, _⟩ := h; rfl) (fun f cdv A outer s H E hr => ⟨_, pss_one (ps_ret (pe_callB call_len_seq (by rfl) T.f_len (by decide +kernel) (pa_cons (pe_fld (pv 0) rfl) pa_nil))), fun (a : Act) ds L M h => ?_⟩)
  obtain ⟨rfl, _⟩ := h
  walk_at "sy"
  refine ⟨_, _, _, rfl, T.cAct, T.n_parts, rfl, ?_⟩
  walk_at "sy"
  refine c_len (.inl rfl) ⟨?_, rfl⟩
  rw [List.length_map]
end
end K85
set_option maxRecDepth 100000
set_option maxHeartbeats 4000000
/-! names of a world, copies, subsets -/
namespace K85
open PySem L2
open C8 (Cal Met Mak pe_c pe_mk pe_mt pe_mt0 pe_gc)
local macro_rules | `(tactic| walk_at "sy1") => `(tactic| with_reducible first
  | refine r_seq ?_ | refine r_if ?_ | refine r_ret ?_ | refine r_retN ?_ | refine r_asg ?_ | refine r_drop ?_ | refine r_brk ?_ | refine r_cont ?_ | refine r_fld ?_ | refine r_dput ?_ | refine r_for ?_ | refine r_next ?_
  | refine g_name ?_ | refine g_tup ?_ | refine g_unl ?_ | refine g_cons ?_ | refine g_nil ?_
  | refine t_test ?_ | refine t_B ?_ | refine t_not ?_ | refine t_and ?_ | refine t_or ?_ | refine t_yes ?_
  | refine e_var rfl ?_ | refine e_int ?_ | refine e_str ?_ | refine e_bl ?_ | refine e_non ?_ | refine e_ref ?_ | refine e_op ?_ | refine e_un ?_ | refine e_andV ?_ | refine e_orV ?_ | refine e_notV ?_ | refine e_if ?_ | refine e_isN ?_ | refine e_notN ?_
  | refine e_tup ?_ | refine e_fld ?_ | refine e_call0 ?_ | refine e_meth0 ?_ | refine e_cb ?_ | refine e_bm ?_ | refine e_dget ?_ | refine e_dget1 ?_ | refine e_din ?_ | refine e_dnotin ?_ | refine e_chain ?_ | refine e_fcall ?_ | refine e_sm ?_
  | refine a_nil ?_ | refine a_cons ?_ | refine i_list ?_ | refine i_tup ?_ | refine i_seq ?_ | refine i_rng1 ?_ | refine i_str ?_
  | refine s_none ?_ | refine s_some ?_ | refine e_slL ?_ | refine e_slT ?_
  | refine o_II ?_ | refine o_IB ?_)
local macro_rules | `(tactic| walk_at "sy") => `(tactic| repeat (first | walk_at "sy1" | refine ⟨_, rfl, ?_⟩ | refine ⟨(rfl : List.lookup _ _ = none), ?_⟩))
local macro_rules | `(tactic| walk_at "eqF") => `(tactic| (refine o_eq rfl rfl rfl ?_; walk_at "sy"; refine iF (by decide +kernel) ?_; walk_at "sy"))
local macro_rules | `(tactic| walk_at "eqT") => `(tactic| (refine o_eq rfl rfl rfl ?_; walk_at "sy"; refine iT (by decide +kernel) ?_; walk_at "sy"))
local macro_rules | `(tactic| walk_at "pureEnd") => `(tactic| (rintro d M' ⟨rfl, rfl⟩))
def S_check_lists : FS := pureS (List (Bool × List Str)) (fun l => [.lst (l.map fun p => dNm p.1 p.2)]) (fun l => (∀ p ∈ l, ∀ x ∈ p.2, NameOk x) ∧ (l.flatMap (·.2)).Nodup ∧ (l.flatMap (·.2)).length ≤ 100) (fun _ => .non)
abbrev S_copied (K : PySem.W.Frag) : FS := ⟨Act, fun a ds L _ => ds = [dAct K a] ∧ ActOk a ∧ NoFlat L, fun a M d M' => M = M' ∧ d = dAct K a⟩
def subT : List Str → List (List Str)
  | [] => [[]]
  | x :: r => [[]] ++ (subT r).map (fun s => x :: s) ++ (subT r).filter (fun s => !decide (s = []))
def S_sub (n : Nat) : FS := pureS (List Str) (fun xs => [.lst (dStrs xs)]) (fun xs => xs.length ≤ n ∧ ∀ x ∈ xs, PyData.strOk x = true) (fun xs => .lst (dSts (subT xs)))
section
variable {P : Program} {w : World} {K : PySem.W.Frag} {mg : Str → Option Value} {base : Heap}
theorem str_ok {x : Str} (h : NameOk x) : PyData.strOk x = true := by
  unfold PyData.strOk
  rw [Array.all_eq_true']
  intro c hc
  have := h.2.2.2 c (by simpa using hc)
  have h2 : ("abcdefghijklmnopqrstuvwxyz" : Str).cps.toList.all (fun c => decide (c < 0x110000)) = true := by decide +kernel
  rw [List.all_eq_true] at h2
  exact h2 c this
theorem dStrs_at {xs : List Str} {i : Nat} {d : Dt} (h : (dStrs xs)[i]? = some d) : ∃ x, xs[i]? = some x ∧ d = .s x := at_map h
theorem dNm_seq (b : Bool) (ns : List Str) : dNm b ns = .lst (dStrs ns) ∨ dNm b ns = .tup (dStrs ns) := by
  cases b with
  | true => exact .inl rfl
  | false => exact .inr rfl
theorem take_one {α : Type} {l : List α} {i : Nat} {x : α} (h : l[i]? = some x) : l.take (i + 1) = l.take i ++ [x] := by
  rw [List.take_succ, h]
  rfl
theorem ok_check_lists (T : Tx K mg) (D : Df K mg "check_lists" s_check_lists) (cN : Cal P w K mg base 1 "is_name" S_is_name.sp []) : Cal P w K mg base 2 "check_lists" S_check_lists.sp [] := by
  refine cal_sym D sc_check_lists (fun _ _ _ _ _ _ us hl => match us, hl with | [_], _ => rfl) (fun a ds L M h => by obtain ⟨rfl, _⟩ := h; rfl) (fun f cdv A outer s H E hr => ⟨_, pss_cons (ps_set (i := 1) sc_check_lists.nd rfl (Or.inl rfl) (pe_lst pa_nil)) (pss_cons (ps_for PassesOwn.never rfl (pi_list (pv 0)) (pg_name (i := 2) sc_check_lists.nd rfl (Or.inl rfl)) (pss_one (ps_for PassesOwn.never rfl (pi_seq (pv 2)) (pg_name (i := 3) sc_check_lists.nd rfl (Or.inl rfl)) (pss_one (ps_if (pt_not (pt_val (pe_c cN hr (by omega) rfl (pa_cons (pv 3) pa_nil)))) (pss_one ps_never) pss_nil))))) (pss_one (ps_for PassesOwn.never rfl (pi_list (pv 0)) (pg_name (i := 2) sc_check_lists.nd rfl (Or.inl rfl)) (pss_one (ps_for PassesOwn.never rfl (pi_seq (pv 2)) (pg_name (i := 3) sc_check_lists.nd rfl (Or.inl rfl)) (pss_cons (ps_if (pt_cmpR op_in_seq (pv 3) (pv 1) rfl) (pss_one ps_never) pss_nil) (pss_one (ps_expr (pe_bm PySem.F.plainAttrs_list PySem.F.slot_list_append PySem.F.type_list_append mt_append (pv 1) (pa_cons (pv 3) pa_nil)))))))))), fun (l : List (Bool × List Str)) ds L M h => ?_⟩)
  obtain ⟨rfl, h1, h2, h3⟩ := h
  walk_at "sy"
  refine e_lstO ?_
  walk_at "sy"
  refine ⟨by simp, fun a ha => ?_⟩
  walk_at "sy"
  refine ⟨fun i Γ' M' => (∃ u v, Γ' = [some (.lst (l.map fun p => dNm p.1 p.2)), some (.adr a), u, v]) ∧ M' = mset M a (.lst []), ⟨⟨none, none, rfl⟩, rfl⟩, ?_, ?_⟩
  · rintro i d Γ' M' hd ⟨⟨u, v, rfl⟩, rfl⟩
    obtain ⟨p, hp, rfl⟩ := at_map hd
    have hm := List.mem_of_getElem? hp
    walk_at "sy"
    refine ⟨dStrs p.2, dNm_seq p.1 p.2, ?_⟩
    refine ⟨fun j Γ' M' => (∃ u v, Γ' = [some (.lst (l.map fun p => dNm p.1 p.2)), some (.adr a), u, v]) ∧ M' = mset M a (.lst []), ⟨⟨_, _, rfl⟩, rfl⟩, ?_, ?_⟩
    · rintro j d Γ' M' hd ⟨⟨u, v, rfl⟩, rfl⟩
      obtain ⟨x, hx, rfl⟩ := dStrs_at hd
      walk_at "sy"
      refine ⟨x, ⟨rfl, h1 p hm x (List.mem_of_getElem? hx)⟩, ?_⟩
      rintro d M2 ⟨rfl, rfl⟩
      refine ⟨_, rfl, iF rfl ?_⟩
      walk_at "sy"
      exact ⟨⟨_, _, rfl⟩, rfl⟩
    · rintro Γ' M' ⟨⟨u, v, rfl⟩, rfl⟩
      exact ⟨⟨_, _, rfl⟩, rfl⟩
  · rintro Γ' M' ⟨⟨u, v, rfl⟩, rfl⟩
    refine Run.post ?_
    walk_at "sy"
    refine ⟨fun i Γ' M' => (∃ u v, Γ' = [some (.lst (l.map fun p => dNm p.1 p.2)), some (.adr a), u, v]) ∧ M' = mset M a (.lst (dStrs ((l.take i).flatMap (·.2)))), ⟨⟨_, _, rfl⟩, rfl⟩, ?_, ?_⟩
    · rintro i d Γ' M' hd ⟨⟨u, v, rfl⟩, rfl⟩
      obtain ⟨p, hp, rfl⟩ := at_map hd
      have hm := List.mem_of_getElem? hp
      have hsp : l.flatMap (·.2) = (l.take i).flatMap (·.2) ++ (p.2 ++ (l.drop (i + 1)).flatMap (·.2)) := by
        conv => lhs; rw [← List.take_append_drop (i + 1) l, take_one hp]
        simp
      walk_at "sy"
      refine ⟨dStrs p.2, dNm_seq p.1 p.2, ?_⟩
      refine ⟨fun j Γ' M' => (∃ u v, Γ' = [some (.lst (l.map fun p => dNm p.1 p.2)), some (.adr a), u, v]) ∧ M' = mset M a (.lst (dStrs ((l.take i).flatMap (·.2) ++ p.2.take j))), ⟨⟨_, _, rfl⟩, by simp⟩, ?_, ?_⟩
      · rintro j d Γ' M' hd ⟨⟨u, v, rfl⟩, rfl⟩
        obtain ⟨x, hx, rfl⟩ := dStrs_at hd
        have hsp2 : p.2 = p.2.take j ++ (x :: p.2.drop (j + 1)) := by
          conv => lhs; rw [← List.take_append_drop (j + 1) p.2, take_one hx]
          simp
        rw [hsp, hsp2] at h2 h3
        walk_at "sy"
        refine o_inS (.inl (vw_adr mset_same)) ⟨_, rfl, iF ?_ ?_⟩
        · simp only [Bool.false_eq_true, if_false]
          refine decide_eq_false fun hin => ?_
          have := (List.nodup_append.mp (by simpa only [List.append_assoc, List.cons_append] using h2)).2.2
          rw [List.mem_append] at hin
          rcases hin with z | z
          · exact this x z x (by simp) rfl
          · have h4 := (List.nodup_append.mp h2).2.1
            rw [List.append_assoc] at h4
            exact (List.nodup_append.mp h4).2.2 x z x (by simp) rfl
        · walk_at "sy"
          refine ⟨_, vw_adr mset_same, ?_⟩
          walk_at "sy"
          refine m_app mset_same ?_ ?_
          · simp only [dStrs, List.length_map, List.length_append] at h3 ⊢
            omega
          · refine ⟨⟨_, _, rfl⟩, ?_⟩
            rw [mset_mset, take_one hx]
            simp [dStrs]
      · rintro Γ' M' ⟨⟨u, v, rfl⟩, rfl⟩
        refine ⟨⟨_, _, rfl⟩, ?_⟩
        have e : (dStrs p.2).length = p.2.length := by simp [dStrs]
        rw [e, List.take_length, take_one hp]
        simp
    · rintro Γ' M' ⟨⟨u, v, rfl⟩, rfl⟩
      refine ⟨M, VwM.less fun b d e => ?_, rfl, rfl⟩
      rw [mset_ne]
      · exact e
      · rintro rfl
        rw [ha] at e
        cases e
theorem ok_copied (T : Tx K mg) (D : Df K mg "copied_action" s_copied_action) (kA : Mak P w K mg base 6 "Action" (cl K "Action") (S_Ainit K).sp []) (mO : Met P w K mg base 6 (cl K "Action") "outcome" (S_Aout K).sp []) (dL : Dun P w K mg base 1 (cl K "Action") "__len__" (S_Alen K).sp) : Cal P w K mg base 8 "copied_action" (S_copied K).sp [] := by
  refine cal_sym D sc_copied_action (fun _ _ _ _ _ _ us hl => match us, hl with | [_], _ => rfl) (fun a ds L M h => by obtain ⟨rfl, _⟩ := h; rfl) (fun f cdv A outer s H E hr => ⟨_, pss_one (ps_ret (pe_mk kA hr (by omega) rfl (pa_cons (pe_fld (pv 0) rfl) (pa_cons (pe_lc (own := [("k", 1)]) rfl sc_copied_action.nd (pi_range1 (by rfl) T.f_range (pa_cons (pe_callB (cr_lenO dL hr (by omega)) (by rfl) T.f_len (by decide +kernel) (pa_cons (pv 0) pa_nil)) pa_nil)) (blkOk_by (own := [("k", 1)]) (N := ["action", "k"]) (sc := defScope s_copied_action) (by decide +kernel)) (fun _ _ _ _ _ => (pg_name (i := 1) sc_copied_action.nd rfl (Or.inl rfl))) (fun _ _ _ _ _ => pts_nil) (fun _ _ _ _ _ => (pe_mt mO hr (by omega) (pv 0) (pa_cons (pv 1) pa_nil)))) pa_nil)))), fun (a : Act) ds L M h => ?_⟩)
  obtain ⟨rfl, hA, hL⟩ := h
  have hl : a.parts.length ≤ 16 := hA.len
  walk_at "sy"
  refine e_init (fun _ => repL_nil) ?_
  walk_at "sy"
  refine ⟨_, _, _, rfl, T.cAct, T.n_need, rfl, ?_⟩
  walk_at "sy"
  refine e_lcM (α := Nat) (wo_name (by decide)) ?_
  walk_at "sy"
  refine c_lenOwn ⟨_, rfl⟩ ⟨a, ⟨rfl, True.intro⟩, ?_⟩
  rintro d M2 ⟨rfl, rfl⟩
  refine ⟨_, rfl, by omega, ?_⟩
  walk_at "sy"
  refine ⟨by omega, by omega, ?_⟩
  refine ⟨List.range a.parts.length, fun k => .i ((k : Nat) : Int), fun _ => true, fun k => dOut K (a.parts.getD k []), rfl, by rw [List.length_range]; omega, fun k hk => ?_, ?_⟩
  · intro M' l
    have hk := List.mem_range.mp hk
    walk_at "sy"
    refine ⟨rfl, ?_⟩
    walk_at "sy"
    refine ⟨rfl, rfl, fun _ => ?_⟩
    walk_at "sy"
    refine ⟨(a, k), ⟨rfl, hA, hL, hk⟩, ?_⟩
    rintro d M2 ⟨rfl, o, ho, rfl⟩
    refine ⟨?_, rfl⟩
    have ho : a.parts[k]? = some o := ho
    show dOut K o = dOut K (a.parts.getD k [])
    rw [List.getD_eq_getElem?_getD, ho]
    rfl
  · rw [filter_tt]
    have e : (List.range a.parts.length).map (fun k => dOut K (a.parts.getD k [])) = a.parts.map (dOut K) := by
      refine List.ext_getElem (by simp) fun i h1 h2 => ?_
      rw [List.length_map] at h2
      simp [List.getD_eq_getElem?_getD, List.getElem?_eq_getElem h2]
    rw [e]
    walk_at "sy"
    exact ⟨⟨hA, hL⟩, rfl, rfl⟩
theorem subT_len (xs : List Str) : (subT xs).length ≤ 2 * 3 ^ xs.length := by
  induction xs with
  | nil => simp [subT]
  | cons x r ih =>
    have h1 := List.length_filter_le (fun s => !decide (s = [])) (subT r)
    simp only [subT, List.length_append, List.length_map, List.length_cons, List.length_nil, Nat.pow_succ]
    have h2 : 1 ≤ 3 ^ r.length := Nat.one_le_pow _ _ (by decide)
    omega
theorem subT_ok {xs : List Str} (h : ∀ x ∈ xs, PyData.strOk x = true) : ∀ s ∈ subT xs, ∀ x ∈ s, PyData.strOk x = true := by
  induction xs with
  | nil => intro s hs x hx; simp [subT] at hs; subst hs; simp at hx
  | cons y r ih =>
    intro s hs x hx
    have ih := ih fun z hz => h z (List.mem_cons_of_mem _ hz)
    simp only [subT, List.mem_append, List.mem_singleton, List.mem_map, List.mem_filter] at hs
    rcases hs with (rfl | ⟨t, ht, rfl⟩) | ⟨hs, _⟩
    · simp at hx
    · rcases List.mem_cons.mp hx with rfl | hx
      · exact h _ List.mem_cons_self
      · exact ih t ht x hx
    · exact ih s hs x hx
theorem subT_each {xs : List Str} : ∀ s ∈ subT xs, s.length ≤ xs.length := by
  induction xs with
  | nil => intro s hs; simp [subT] at hs; subst hs; simp
  | cons y r ih =>
    intro s hs
    simp only [subT, List.mem_append, List.mem_singleton, List.mem_map, List.mem_filter] at hs
    rcases hs with (rfl | ⟨t, ht, rfl⟩) | ⟨hs, _⟩
    · simp
    · have := ih t ht
      simp only [List.length_cons]
      omega
    · have := ih s hs
      simp only [List.length_cons]
      omega
theorem ok_sub (T : Tx K mg) (D : Df K mg "sub_tuples" s_sub_tuples) : ∀ n : Nat, n ≤ 5 → Cal P w K mg base (n + 1) "sub_tuples" (S_sub n).sp [] := by
  intro n
  induction n with
  | zero =>
    intro hn
    refine cal_sym D sc_sub_tuples (fun _ _ _ _ _ _ us hl => match us, hl with | [_], _ => rfl) (fun a ds L M h => by obtain ⟨rfl, _⟩ := h; rfl) (fun f cdv A outer s H E hr => ⟨_, pss_cons (ps_if (pt_cmpR (op_eqD (hu64 hr)) (pv 0) (pe_lst pa_nil) (nomark _)) (pss_one (ps_ret (pe_lst (pa_cons (pe_tup pa_nil) pa_nil)))) pss_nil) pss_never, fun (xs : List Str) ds L M h => ?_⟩)
    obtain ⟨rfl, h1, h2⟩ := h
    have hx : xs = [] := List.eq_nil_of_length_eq_zero (by have : xs.length ≤ 0 := h1; omega)
    subst hx
    walk_at "sy"
    refine e_lst ?_
    walk_at "sy"
    refine ⟨by simp, ?_⟩
    refine o_eqSs (xs := []) (ys := []) rfl rfl h2 (fun z hz => by simp at hz) ⟨_, rfl, iT rfl ?_⟩
    walk_at "sy"
    refine e_lst ?_
    walk_at "sy"
    refine ⟨by simp, ?_⟩
    walk_at "sy"
    exact ⟨by simp, rfl, rfl⟩
  | succ n ih =>
    intro hn
    have ih := ih (by omega)
    refine cal_sym D sc_sub_tuples (fun _ _ _ _ _ _ us hl => match us, hl with | [_], _ => rfl) (fun a ds L M h => by obtain ⟨rfl, _⟩ := h; rfl) (fun f cdv A outer s H E hr => ⟨_, pss_cons (ps_if (pt_cmpR (op_eqD (hu64 hr)) (pv 0) (pe_lst pa_nil) (nomark _)) (pss_one (ps_ret (pe_lst (pa_cons (pe_tup pa_nil) pa_nil)))) pss_nil) (pss_cons (ps_set (i := 1) sc_sub_tuples.nd rfl (Or.inl rfl) (pe_c ih hr (by omega) rfl (pa_cons (pe_slice sl_list (pv 0) (po_some pe_int) po_none) pa_nil))) (pss_one (ps_ret (pe_op op_cat (pe_op op_cat (pe_lst (pa_cons (pe_tup pa_nil) pa_nil)) (pe_lc (own := [("one", 2)]) rfl sc_sub_tuples.nd (pi_list (pv 1)) (blkOk_by (own := [("one", 2)]) (N := ["some", "rest", "one"]) (sc := defScope s_sub_tuples) (by decide +kernel)) (fun _ _ _ _ _ => (pg_name (i := 2) sc_sub_tuples.nd rfl (Or.inl rfl))) (fun _ _ _ _ _ => pts_nil) (fun _ _ _ _ _ => (pe_op (show OpR _ _ (rCatA K) from op_catA) (pe_tup (pa_cons (pe_ix (show IxR _ (rIxL K) from ix_list) (pv 0) pe_int (fun _ _ => rfl)) pa_nil)) (pv 2))))) (pe_lc (own := [("one", 2)]) rfl sc_sub_tuples.nd (pi_list (pv 1)) (blkOk_by (own := [("one", 2)]) (N := ["some", "rest", "one"]) (sc := defScope s_sub_tuples) (by decide +kernel)) (fun _ _ _ _ _ => (pg_name (i := 2) sc_sub_tuples.nd rfl (Or.inl rfl))) (fun _ _ _ _ _ => (pts_one (pt_cmpR (show OpR _ _ (rNeD K) from (op_neD (hu64 hr))) (pv 2) (pe_tup pa_nil) (nomark _)))) (fun _ _ _ _ _ => (pv 2))))))), fun (xs : List Str) ds L M h => ?_⟩)
    obtain ⟨rfl, h1, h2⟩ := h
    have h1 : xs.length ≤ n + 1 := h1
    walk_at "sy"
    refine e_lst ?_
    walk_at "sy"
    refine ⟨by simp, ?_⟩
    refine o_eqSs (xs := xs) (ys := []) rfl rfl h2 (fun z hz => by simp at hz) ⟨_, rfl, iB (fun e => ?_) (fun e => ?_)⟩
    · have e := of_decide_eq_true e
      subst e
      walk_at "sy"
      refine e_lst ?_
      walk_at "sy"
      refine ⟨by simp, ?_⟩
      walk_at "sy"
      exact ⟨by simp, rfl, rfl⟩
    · cases xs with
      | nil => cases e
      | cons x r =>
        have hr' : ∀ z ∈ r, PyData.strOk z = true := fun z hz => h2 z (List.mem_cons_of_mem _ hz)
        have h3 := subT_len r
        have h4 : 3 ^ r.length ≤ 3 ^ 5 := Nat.pow_le_pow_right (by decide) (by rw [List.length_cons] at h1; omega)
        walk_at "sy"
        refine ⟨r, ⟨?_, by rw [List.length_cons] at h1; show r.length ≤ n; omega, hr'⟩, ?_⟩
        · show [Dt.lst (cutD (.s x :: dStrs r) (some 1) none)] = _
          rw [cut1]
        rintro d M2 ⟨rfl, rfl⟩
        walk_at "sy"
        refine e_lst ?_
        walk_at "sy"
        refine ⟨by simp, ?_⟩
        walk_at "sy"
        refine ⟨by simp, ?_⟩
        refine e_lcM (α := List Str) (wo_name (by decide)) ?_
        walk_at "sy"
        refine ⟨subT r, fun s => .tup (dStrs s), fun _ => true, fun s => .tup (dStrs (x :: s)), rfl, by omega, fun s hs => ?_, ?_⟩
        · intro M' l
          walk_at "sy"
          refine ⟨rfl, ?_⟩
          walk_at "sy"
          refine ⟨rfl, rfl, fun _ => ?_⟩
          walk_at "sy"
          refine o_ixL (n := 0) (d := .s x) rfl rfl ?_
          walk_at "sy"
          refine ⟨by simp, ?_⟩
          walk_at "sy"
          refine o_catT (as := [.s x]) ?_ ⟨rfl, rfl⟩
          have : s.length ≤ r.length := subT_each s hs
          simp only [dStrs, List.length_map, List.length_cons, List.length_nil] at h1 ⊢
          omega
        · rw [filter_tt]
          refine o_cat rfl rfl (by simp [dStrs]; omega) ?_
          refine e_lcM (α := List Str) (wo_name (by decide)) ?_
          walk_at "sy"
          refine ⟨subT r, fun s => .tup (dStrs s), fun s => !decide (s = []), fun s => .tup (dStrs s), rfl, by omega, fun s hs => ?_, ?_⟩
          · intro M' l
            walk_at "sy"
            refine ⟨rfl, ?_⟩
            walk_at "sy"
            refine ⟨by simp, ?_⟩
            refine o_neTs (ys := []) (subT_ok hr' s hs) (fun z hz => by simp at hz) ⟨_, rfl, rfl, rfl, fun _ => ?_⟩
            walk_at "sy"
            exact ⟨rfl, rfl⟩
          · have h5 := List.length_filter_le (fun s : List Str => !decide (s = [])) (subT r)
            refine o_cat rfl rfl (by simp only [List.length_append, List.length_map, List.length_cons, List.length_nil]; omega) ⟨?_, rfl⟩
            show _ = Dt.lst (dSts ([[]] ++ (subT r).map (fun s => x :: s) ++ (subT r).filter (fun s => !decide (s = []))))
            unfold dSts
            rw [List.map_append, List.map_append, List.map_map]
            rfl
end
end K85
set_option maxRecDepth 100000
set_option maxHeartbeats 4000000
/-! worlds: names, checks -/
namespace K85
open PySem L2
open C8 (Cal Met Mak pe_c pe_mk pe_mt pe_mt0 pe_gc)
local macro_rules | `(tactic| walk_at "sy1") => `(tactic| with_reducible first
  | refine r_seq ?_ | refine r_if ?_ | refine r_ret ?_ | refine r_retN ?_ | refine r_asg ?_ | refine r_drop ?_ | refine r_brk ?_ | refine r_cont ?_ | refine r_fld ?_ | refine r_dput ?_ | refine r_for ?_ | refine r_next ?_
  | refine g_name ?_ | refine g_tup ?_ | refine g_unl ?_ | refine g_cons ?_ | refine g_nil ?_
  | refine t_test ?_ | refine t_B ?_ | refine t_not ?_ | refine t_and ?_ | refine t_or ?_ | refine t_yes ?_
  | refine e_var rfl ?_ | refine e_int ?_ | refine e_str ?_ | refine e_bl ?_ | refine e_non ?_ | refine e_ref ?_ | refine e_op ?_ | refine e_un ?_ | refine e_andV ?_ | refine e_orV ?_ | refine e_notV ?_ | refine e_if ?_ | refine e_isN ?_ | refine e_notN ?_
  | refine e_tup ?_ | refine e_fld ?_ | refine e_call0 ?_ | refine e_meth0 ?_ | refine e_cb ?_ | refine e_bm ?_ | refine e_dget ?_ | refine e_dget1 ?_ | refine e_din ?_ | refine e_dnotin ?_ | refine e_chain ?_ | refine e_fcall ?_ | refine e_sm ?_
  | refine a_nil ?_ | refine a_cons ?_ | refine i_list ?_ | refine i_tup ?_ | refine i_seq ?_ | refine i_rng1 ?_ | refine i_str ?_
  | refine s_none ?_ | refine s_some ?_ | refine e_slL ?_ | refine e_slT ?_
  | refine o_II ?_ | refine o_IB ?_)
local macro_rules | `(tactic| walk_at "sy") => `(tactic| repeat (first | walk_at "sy1" | refine ⟨_, rfl, ?_⟩ | refine ⟨(rfl : List.lookup _ _ = none), ?_⟩))
local macro_rules | `(tactic| walk_at "eqF") => `(tactic| (refine o_eq rfl rfl rfl ?_; walk_at "sy"; refine iF (by decide +kernel) ?_; walk_at "sy"))
local macro_rules | `(tactic| walk_at "eqT") => `(tactic| (refine o_eq rfl rfl rfl ?_; walk_at "sy"; refine iT (by decide +kernel) ?_; walk_at "sy"))
local macro_rules | `(tactic| walk_at "pureEnd") => `(tactic| (rintro d M' ⟨rfl, rfl⟩))
abbrev s_World_seen : Stmt := inClass (top 31) 4
theorem sc_World_seen : FnScope ["self"] ["self"] (defScope s_World_seen) := ⟨rfl, rfl, rfl, by decide +kernel, rfl, by decide +kernel, by decide +kernel⟩
abbrev s_World_counters : Stmt := inClass (top 31) 5
theorem sc_World_counters : FnScope ["self"] ["self"] (defScope s_World_counters) := ⟨rfl, rfl, rfl, by decide +kernel, rfl, by decide +kernel, by decide +kernel⟩
abbrev s_World_check_change_of : Stmt := inClass (top 31) 9
theorem sc_World_check_change_of : FnScope ["self", "name", "change"] ["self", "name", "change"] (defScope s_World_check_change_of) := ⟨rfl, rfl, rfl, by decide +kernel, rfl, by decide +kernel, by decide +kernel⟩
abbrev s_World_takes_reserve : Stmt := inClass (top 31) 10
theorem sc_World_takes_reserve : FnScope ["self", "outcome", "name"] ["self", "outcome"] (defScope s_World_takes_reserve) := ⟨rfl, rfl, rfl, by decide +kernel, rfl, by decide +kernel, by decide +kernel⟩
abbrev s_World_check_action : Stmt := inClass (top 31) 11
theorem sc_World_check_action : FnScope ["self", "name", "action", "other", "outcomes", "outcome", "k"] ["self", "name", "action"] (defScope s_World_check_action) := ⟨rfl, rfl, rfl, by decide +kernel, rfl, by decide +kernel, by decide +kernel⟩
def Wd.seen (w : Wd) : List Str := w.facts ++ w.piles
def Wd.counters (w : Wd) : List Str := w.piles ++ w.reserves
/-- the lists of names of a world -/
structure NmsOk (w : Wd) : Prop where
  nm : ∀ x ∈ w.facts ++ w.piles ++ w.reserves, NameOk x
  nd : (w.facts ++ w.piles ++ w.reserves).Nodup
  len : (w.facts ++ w.piles ++ w.reserves).length ≤ 8
  pl : w.piles.length ≤ 2
  sl : w.facts.length + w.piles.length ≤ 4
def ChOk (w : Wd) (n : Str) (c : Ch) : Prop := (n ∈ w.facts ∧ (c = .tru ∨ c = .fls)) ∨ (n ∈ w.piles ∧ (c = .add ∨ c = .take ∨ c = .emp)) ∨ (n ∈ w.reserves ∧ (c = .add ∨ c = .take))
def tkr (w : Wd) (o : Out) : Bool := w.reserves.any fun n => decide (o.get n = some .take)
/-- an action that may be put into the world -/
structure ActIn (w : Wd) (a : Act) : Prop where
  ok : ActOk a
  ch : ∀ o ∈ a.parts, ∀ p ∈ o, ChOk w p.1 p.2
  need : ∀ x ∈ a.need.names, x ∈ w.seen
  dep : a.need.depth ≤ 5 ∧ a.need.names.length ≤ 5
  free : ∃ o ∈ a.parts, tkr w o = false
abbrev S_seen (K : PySem.W.Frag) : FS := ⟨Wd, fun w ds _ M => (∃ x t, ds = [x] ∧ vw M x = dWdT K w t) ∧ NmsOk w, fun w M d M' => M = M' ∧ d = .lst (dStrs w.seen)⟩
abbrev S_counters (K : PySem.W.Frag) : FS := ⟨Wd, fun w ds _ M => (∃ x t, ds = [x] ∧ vw M x = dWdT K w t) ∧ NmsOk w, fun w M d M' => M = M' ∧ d = .lst (dStrs w.counters)⟩
abbrev S_chof (K : PySem.W.Frag) : FS := ⟨Wd × Str × Ch, fun a ds _ M => (∃ x t, ds = [x, .s a.2.1, a.2.2.d] ∧ vw M x = dWdT K a.1 t) ∧ NmsOk a.1 ∧ ChOk a.1 a.2.1 a.2.2, fun w M d M' => M = M' ∧ d = .non⟩
abbrev S_tkr (K : PySem.W.Frag) : FS := ⟨Wd × Out, fun a ds _ M => (∃ x t, ds = [x, dOut K a.2] ∧ vw M x = dWdT K a.1 t) ∧ NmsOk a.1, fun a M d M' => M = M' ∧ d = .b (tkr a.1 a.2)⟩
abbrev S_chact (K : PySem.W.Frag) : FS := ⟨Wd × Str × Act, fun a ds L M => (∃ x t, ds = [x, .s a.2.1, dAct K a.2.2] ∧ vw M x = dWdT K a.1 t) ∧ NmsOk a.1 ∧ NameOk a.2.1 ∧ ActIn a.1 a.2.2 ∧ NoFlat L, fun w M d M' => M = M' ∧ d = .non⟩
section
variable {P : Program} {w : World} {K : PySem.W.Frag} {mg : Str → Option Value} {base : Heap}
theorem len_sub {w : Wd} (h : NmsOk w) : w.facts.length + w.piles.length + w.reserves.length ≤ 8 := by
  have := h.len
  simpa only [List.length_append] using this
theorem ok_seen (T : Tx K mg) (D : Md K (cl K "World") "seen" "World.seen" s_World_seen) : Met P w K mg base 1 (cl K "World") "seen" (S_seen K).sp [] := by
  refine met_sym T.cWd D sc_World_seen (fun _ _ _ _ _ _ us hl => match us, hl with | [_], _ => rfl) (fun a ds L M h => by obtain ⟨⟨x, t, rfl, _⟩, _⟩ := h; rfl) (fun f cdv A outer s H E hr => ⟨_, pss_one (ps_ret (pe_op op_cat (pe_fld (pv 0) rfl) (pe_fld (pv 0) rfl))), fun (v : Wd) ds L M h => ?_⟩)
  obtain ⟨⟨x, t, rfl, hv⟩, hw⟩ := h
  have hl := len_sub hw
  walk_at "sy"
  refine ⟨_, _, _, hv, T.cWd, T.n_facts, rfl, ?_⟩
  walk_at "sy"
  refine ⟨_, _, _, hv, T.cWd, T.n_piles, rfl, ?_⟩
  refine o_cat rfl rfl (by simp only [dStrs, List.length_map]; omega) ⟨rfl, ?_⟩
  unfold Wd.seen
  rw [dStrs_app]
theorem ok_counters (T : Tx K mg) (D : Md K (cl K "World") "counters" "World.counters" s_World_counters) : Met P w K mg base 1 (cl K "World") "counters" (S_counters K).sp [] := by
  refine met_sym T.cWd D sc_World_counters (fun _ _ _ _ _ _ us hl => match us, hl with | [_], _ => rfl) (fun a ds L M h => by obtain ⟨⟨x, t, rfl, _⟩, _⟩ := h; rfl) (fun f cdv A outer s H E hr => ⟨_, pss_one (ps_ret (pe_op op_cat (pe_fld (pv 0) rfl) (pe_fld (pv 0) rfl))), fun (v : Wd) ds L M h => ?_⟩)
  obtain ⟨⟨x, t, rfl, hv⟩, hw⟩ := h
  have hl := len_sub hw
  walk_at "sy"
  refine ⟨_, _, _, hv, T.cWd, T.n_piles, rfl, ?_⟩
  walk_at "sy"
  refine ⟨_, _, _, hv, T.cWd, T.n_reserves, rfl, ?_⟩
  refine o_cat rfl rfl (by simp only [dStrs, List.length_map]; omega) ⟨rfl, ?_⟩
  unfold Wd.counters
  rw [dStrs_app]
theorem nms_nd {w : Wd} (h : NmsOk w) : w.facts.Nodup ∧ w.piles.Nodup ∧ w.reserves.Nodup ∧ (∀ x ∈ w.facts, x ∉ w.piles) ∧ (∀ x ∈ w.facts, x ∉ w.reserves) ∧ ∀ x ∈ w.piles, x ∉ w.reserves := by
  obtain ⟨h1, h2, h3⟩ := List.nodup_append.mp h.nd
  obtain ⟨h4, h5, h6⟩ := List.nodup_append.mp h1
  exact ⟨h4, h5, h2, fun x a b => h6 x a x b rfl, fun x a b => h3 x (List.mem_append_left _ a) x b rfl, fun x a b => h3 x (List.mem_append_right _ a) x b rfl⟩
theorem ok_chof (T : Tx K mg) (D : Md K (cl K "World") "check_change_of" "World.check_change_of" s_World_check_change_of) : Met P w K mg base 1 (cl K "World") "check_change_of" (S_chof K).sp [] := by
  refine met_sym T.cWd D sc_World_check_change_of (fun _ _ _ _ _ _ us hl => match us, hl with | [_, _, _], _ => rfl) (fun a ds L M h => by obtain ⟨⟨x, t, rfl, _⟩, _⟩ := h; rfl) (fun f cdv A outer s H E hr => ⟨_, pss_one (ps_if (pt_cmpR op_in_seq (pv 1) (pe_fld (pv 0) rfl) rfl) (pss_one (ps_if (PW.pt (pw_and (pt_cmpR op_notB3 (pv 2) pe_bl (nomark _)) (pw_and1 (pt_cmpR op_notB3 (pv 2) pe_bl (nomark _))))) (pss_one ps_never) pss_nil)) (pss_one (ps_if (pt_cmpR op_in_seq (pv 1) (pe_fld (pv 0) rfl) rfl) (pss_one (ps_if (pt_cmpR op_notIn_seq (pv 2) (pe_tup (pa_cons pe_str (pa_cons pe_str (pa_cons pe_str pa_nil)))) rfl) (pss_one ps_never) pss_nil)) (pss_one (ps_if (pt_cmpR op_in_seq (pv 1) (pe_fld (pv 0) rfl) rfl) (pss_one (ps_if (pt_cmpR op_notIn_seq (pv 2) (pe_tup (pa_cons pe_str (pa_cons pe_str pa_nil))) rfl) (pss_one ps_never) pss_nil)) (pss_one ps_never)))))), fun (v, n, c) ds L M h => ?_⟩)
  obtain ⟨⟨x, t, rfl, hv⟩, hw, hc⟩ := h
  have hv : vw M x = dWdT K v t := hv
  obtain ⟨_, _, _, d1, d2, d3⟩ := nms_nd hw
  walk_at "sy"
  refine ⟨_, _, _, hv, T.cWd, T.n_facts, rfl, ?_⟩
  walk_at "sy"
  rcases hc with ⟨hn, hc⟩ | ⟨hn, hc⟩ | ⟨hn, hc⟩
  · refine o_inS (.inl rfl) ⟨_, rfl, iT (by simp only [Bool.false_eq_true, if_false]; exact decide_eq_true hn) ?_⟩
    walk_at "sy"
    refine o_isB c.fv (by cases c <;> rfl) ⟨_, rfl, iB (fun e1 => ?_) (fun e1 => iF rfl ?_)⟩
    · walk_at "sy"
      refine o_isB c.fv (by cases c <;> rfl) ⟨_, rfl, iB (fun e2 => ?_) (fun e2 => ?_)⟩
      · exfalso
        rcases hc with hc | hc
        · rw [show c = .tru from hc] at e1
          exact absurd e1 (by decide +kernel)
        · rw [show c = .fls from hc] at e2
          exact absurd e2 (by decide +kernel)
      · walk_at "sy"
        exact ⟨rfl, rfl⟩
    · walk_at "sy"
      exact ⟨rfl, rfl⟩
  · refine o_inS (.inl rfl) ⟨_, rfl, iF (by simp only [Bool.false_eq_true, if_false]; exact decide_eq_false fun z => d1 _ z hn) ?_⟩
    walk_at "sy"
    refine ⟨_, _, _, hv, T.cWd, T.n_piles, rfl, ?_⟩
    walk_at "sy"
    refine o_inS (.inl rfl) ⟨_, rfl, iT (by simp only [Bool.false_eq_true, if_false]; exact decide_eq_true hn) ?_⟩
    walk_at "sy"
    refine ⟨by simp, ?_⟩
    have hz : ∃ z, c.d = .s z ∧ z ∈ (["add", "take", "empty"] : List Str) := by
      rcases hc with hc | hc | hc
      · rw [show c = .add from hc]; exact ⟨_, rfl, by simp⟩
      · rw [show c = .take from hc]; exact ⟨_, rfl, by simp⟩
      · rw [show c = .emp from hc]; exact ⟨_, rfl, by simp⟩
    obtain ⟨z, e, hz⟩ := hz
    show Op L M _ c.d _ _
    rw [e]
    refine o_inS (xs := ["add", "take", "empty"]) (.inr rfl) ⟨_, rfl, iF (by simp only [if_true]; rw [decide_eq_true hz]; rfl) ?_⟩
    walk_at "sy"
    exact ⟨rfl, rfl⟩
  · refine o_inS (.inl rfl) ⟨_, rfl, iF (by simp only [Bool.false_eq_true, if_false]; exact decide_eq_false fun z => d2 _ z hn) ?_⟩
    walk_at "sy"
    refine ⟨_, _, _, hv, T.cWd, T.n_piles, rfl, ?_⟩
    walk_at "sy"
    refine o_inS (.inl rfl) ⟨_, rfl, iF (by simp only [Bool.false_eq_true, if_false]; exact decide_eq_false fun z => d3 _ z hn) ?_⟩
    walk_at "sy"
    refine ⟨_, _, _, hv, T.cWd, T.n_reserves, rfl, ?_⟩
    walk_at "sy"
    refine o_inS (.inl rfl) ⟨_, rfl, iT (by simp only [Bool.false_eq_true, if_false]; exact decide_eq_true hn) ?_⟩
    walk_at "sy"
    refine ⟨by simp, ?_⟩
    have hz : ∃ z, c.d = .s z ∧ z ∈ (["add", "take"] : List Str) := by
      rcases hc with hc | hc
      · rw [show c = .add from hc]; exact ⟨_, rfl, by simp⟩
      · rw [show c = .take from hc]; exact ⟨_, rfl, by simp⟩
    obtain ⟨z, e, hz⟩ := hz
    show Op L M _ c.d _ _
    rw [e]
    refine o_inS (xs := ["add", "take"]) (.inr rfl) ⟨_, rfl, iF (by simp only [if_true]; rw [decide_eq_true hz]; rfl) ?_⟩
    walk_at "sy"
    exact ⟨rfl, rfl⟩
def gV (o : Option Ch) : V := match o with | some c => c.v | none => .non
theorem gfv (o : Option Ch) : fV (gD o) = some (gV o) := by
  cases o with
  | none => rfl
  | some c => exact c.fv
theorem g_is (o : Option Ch) (c : Ch) (hc : c = .add ∨ c = .take ∨ c = .emp) : decide (gV o = c.v) = decide (o = some c) := by
  rcases hc with rfl | rfl | rfl <;> (cases o with | none => decide +kernel | some d => cases d <;> decide +kernel)
theorem g_sc (o : Option Ch) (c : Ch) (hc : c = .add ∨ c = .take ∨ c = .emp) : scal (gV o) c.v = true := by
  rcases hc with rfl | rfl | rfl <;> (cases o with | none => rfl | some d => cases d <;> rfl)
/-- outcome[name] == a word -/
theorem o_isCh {L : Lk} {M : Mm} {P : Dt → Mm → Prop} {o : Option Ch} (c : Ch) (hc : c = .add ∨ c = .take ∨ c = .emp) (k : P (.b (decide (o = some c))) M) : Op L M rEq (gD o) c.d P :=
  o_eq (gfv o) c.fv (g_sc o c hc) (by rw [g_is o c hc]; exact k)
theorem ok_tkr (T : Tx K mg) (D : Md K (cl K "World") "takes_reserve" "World.takes_reserve" s_World_takes_reserve) (dG : Dun P w K mg base 1 (cl K "Outcome") "__getitem__" (S_Oget K).sp) : Met P w K mg base 4 (cl K "World") "takes_reserve" (S_tkr K).sp [] := by
  refine met_sym T.cWd D sc_World_takes_reserve (fun _ _ _ _ _ _ us hl => match us, hl with | [_, _], _ => rfl) (fun a ds L M h => by obtain ⟨⟨x, t, rfl, _⟩, _⟩ := h; rfl) (fun f cdv A outer s H E hr => ⟨_, pss_one (ps_ret (pe_callB (cr_any rfl) (by rfl) T.f_any (by decide +kernel) (pa_cons (pe_lc (own := [("name", 2)]) rfl sc_World_takes_reserve.nd (pi_list (pe_fld (pv 0) rfl)) (blkOk_by (own := [("name", 2)]) (N := ["self", "outcome", "name"]) (sc := defScope s_World_takes_reserve) (by decide +kernel)) (fun _ _ _ _ _ => (pg_name (i := 2) sc_World_takes_reserve.nd rfl (Or.inl rfl))) (fun _ _ _ _ _ => pts_nil) (fun _ _ _ _ _ => (pe_cmpR op_eq (pe_ixO (pv 1) (pv 2) dG hr (by omega)) pe_str (nomark _)))) pa_nil))), fun (v, o) ds L M h => ?_⟩)
  obtain ⟨⟨x, t, rfl, hv⟩, hw⟩ := h
  have hv : vw M x = dWdT K v t := hv
  have hl := len_sub hw
  walk_at "sy"
  refine e_lcM (α := Str) (wo_name (by decide)) ?_
  walk_at "sy"
  refine ⟨_, _, _, hv, T.cWd, T.n_reserves, rfl, ?_⟩
  refine ⟨_, rfl, ?_⟩
  refine ⟨v.reserves, Dt.s, fun _ => true, fun n => .b (decide (o.get n = some .take)), rfl, by have hl : v.facts.length + v.piles.length + v.reserves.length ≤ 8 := hl; omega, fun n hn => ?_, ?_⟩
  · intro M' l
    walk_at "sy"
    refine ⟨rfl, ?_⟩
    walk_at "sy"
    refine ⟨rfl, rfl, fun _ => ?_⟩
    walk_at "sy"
    refine o_ixOwn ⟨_, rfl⟩ ⟨(o, n), ⟨rfl, True.intro⟩, ?_⟩
    rintro d M2 ⟨rfl, rfl⟩
    walk_at "sy"
    exact o_isCh .take (.inr (.inl rfl)) ⟨rfl, rfl⟩
  · rw [filter_tt]
    walk_at "sy"
    refine c_any (bs := v.reserves.map fun n => decide (o.get n = some .take)) ?_ ⟨rfl, ?_⟩
    · unfold dBls
      rw [List.map_map]
      rfl
    · show Dt.b _ = Dt.b (tkr v o)
      unfold tkr
      rw [List.any_map]
      rfl
theorem get_mem {o : Out} {n : Str} (h : n ∈ o.map (·.1)) : ∃ c, o.get n = some c ∧ (n, c) ∈ o := by
  unfold Out.get
  induction o with
  | nil => simp at h
  | cons q o ih =>
    rw [List.find?_cons]
    by_cases e : q.1 = n
    · refine ⟨q.2, by simp [e], ?_⟩
      rw [← e]
      exact List.mem_cons_self
    · simp only [e, decide_false]
      rw [List.map_cons, List.mem_cons] at h
      rcases h with h | h
      · exact absurd h.symm e
      · obtain ⟨c, h1, h2⟩ := ih h
        exact ⟨c, h1, List.mem_cons_of_mem _ h2⟩
theorem ok_chact (T : Tx K mg) (D : Md K (cl K "World") "check_action" "World.check_action" s_World_check_action) (cN : Cal P w K mg base 1 "is_name" S_is_name.sp []) (mCn : Met P w K mg base 7 (cl K "Condition") "names" (S_Cnames K).sp []) (dL : Dun P w K mg base 1 (cl K "Action") "__len__" (S_Alen K).sp)
    (mO : Met P w K mg base 6 (cl K "Action") "outcome" (S_Aout K).sp []) (mOn : Met P w K mg base 2 (cl K "Outcome") "names" (S_Onames K).sp []) (mCC : Met P w K mg base 1 (cl K "World") "check_change_of" (S_chof K).sp []) (dG : Dun P w K mg base 1 (cl K "Outcome") "__getitem__" (S_Oget K).sp)
    (mT : Met P w K mg base 4 (cl K "World") "takes_reserve" (S_tkr K).sp []) : Met P w K mg base 9 (cl K "World") "check_action" (S_chact K).sp [] := by
  refine met_sym T.cWd D sc_World_check_action (fun _ _ _ _ _ _ us hl => match us, hl with | [_, _, _], _ => rfl) (fun a ds L M h => by obtain ⟨⟨x, t, rfl, _⟩, _⟩ := h; rfl) (fun f cdv A outer s H E hr => ⟨_, pss_cons (ps_if (pt_not (pt_val (pe_c cN hr (by omega) rfl (pa_cons (pv 1) pa_nil)))) (pss_one ps_never) pss_nil) (pss_cons (ps_for PassesOwn.never rfl (pi_list (pe_mt0 mCn hr (by omega) (pe_fld (pv 2) rfl))) (pg_name (i := 3) sc_World_check_action.nd rfl (Or.inl rfl)) (pss_one (ps_if (PW.pt (pw_and (pt_cmpR op_notIn_seq (pv 3) (pe_fld (pv 0) rfl) rfl) (pw_and1 (pt_cmpR op_notIn_seq (pv 3) (pe_fld (pv 0) rfl) rfl)))) (pss_one ps_never) pss_nil))) (pss_cons (ps_setLc (i := 4) (own := [("k", 6)]) rfl sc_World_check_action.nd rfl rfl (sw_true rfl rfl rfl (by decide +kernel)) (pi_range1 (by rfl) T.f_range (pa_cons (pe_callB (cr_lenO dL hr (by omega)) (by rfl) T.f_len (by decide +kernel) (pa_cons (pv 2) pa_nil)) pa_nil)) (blkOk_by (own := [("k", 6)]) (N := ["self", "name", "action", "other", "outcomes", "outcome", "k"]) (sc := defScope s_World_check_action) (by decide +kernel)) (fun _ _ _ _ _ => (pg_name (i := 6) sc_World_check_action.nd rfl (Or.inl rfl))) (fun _ _ _ _ _ => pts_nil) (fun _ _ _ _ _ => (pe_mt mO hr (by omega) (pv 2) (pa_cons (pv 6) pa_nil)))) (pss_cons (ps_for PassesOwn.never rfl (pi_list (pv 4)) (pg_name (i := 5) sc_World_check_action.nd rfl (Or.inl rfl)) (pss_one (ps_for PassesOwn.never rfl (pi_list (pe_mt0 mOn hr (by omega) (pv 5))) (pg_name (i := 3) sc_World_check_action.nd rfl (Or.inl rfl)) (pss_one (ps_expr (pe_mt mCC hr (by omega) (pv 0) (pa_cons (pv 3) (pa_cons (pe_ixO (pv 5) (pv 3) dG hr (by omega)) pa_nil)))))))) (pss_one (ps_if (pt_val (pe_callB (cr_all rfl) (by rfl) T.f_all (by decide +kernel) (pa_cons (pe_lc (own := [("outcome", 5)]) rfl sc_World_check_action.nd (pi_list (pv 4)) (blkOk_by (own := [("outcome", 5)]) (N := ["self", "name", "action", "other", "outcomes", "outcome", "k"]) (sc := defScope s_World_check_action) (by decide +kernel)) (fun _ _ _ _ _ => (pg_name (i := 5) sc_World_check_action.nd rfl (Or.inl rfl))) (fun _ _ _ _ _ => pts_nil) (fun _ _ _ _ _ => (pe_mt mT hr (by omega) (pv 0) (pa_cons (pv 5) pa_nil)))) pa_nil))) (pss_one ps_never) pss_nil))))), fun (v, n, a) ds L M h => ?_⟩)
  obtain ⟨⟨x, t, rfl, hv⟩, hw, hn, hA, hL⟩ := h
  have hv : vw M x = dWdT K v t := hv
  have hw : NmsOk v := hw
  have hn : NameOk n := hn
  have hA : ActIn v a := hA
  have hl := len_sub hw
  have hp : a.parts.length ≤ 16 := hA.ok.len
  walk_at "sy"
  refine ⟨n, ⟨rfl, hn⟩, ?_⟩
  rintro d M2 ⟨rfl, rfl⟩
  refine ⟨_, rfl, iF rfl ?_⟩
  walk_at "sy"
  refine ⟨_, _, dCond K a.need, rfl, T.cAct, T.n_need, rfl, ?_⟩
  walk_at "sy"
  refine ⟨a.need, ⟨rfl, hA.dep.1, by have := hA.dep.2; omega⟩, ?_⟩
  rintro d M2 ⟨rfl, ys, rfl, hy⟩
  refine ⟨_, rfl, ?_⟩
  refine ⟨fun i Γ' M' => (∃ u, Γ' = [some x, some (.s n), some (dAct K a), u, none, none, none]) ∧ M = M', ⟨⟨none, rfl⟩, rfl⟩, ?_, ?_⟩
  · rintro i d Γ' M' hd ⟨⟨u, rfl⟩, rfl⟩
    obtain ⟨z, hz, rfl⟩ := dStrs_at hd
    have hz := hA.need z (hy z (List.mem_of_getElem? hz))
    walk_at "sy"
    refine ⟨_, _, _, hv, T.cWd, T.n_facts, rfl, ?_⟩
    refine o_inS (.inl rfl) ⟨_, rfl, iB (fun e1 => ?_) (fun e1 => iF rfl ?_)⟩
    · walk_at "sy"
      refine ⟨_, _, _, hv, T.cWd, T.n_piles, rfl, ?_⟩
      refine o_inS (.inl rfl) ⟨_, rfl, iF ?_ ?_⟩
      · simp only [if_true, Bool.not_eq_true', Bool.not_eq_false', decide_eq_false_iff_not, decide_eq_true_eq] at e1 ⊢
        rcases List.mem_append.mp hz with q | q
        · exact absurd q e1
        · exact q
      · walk_at "sy"
        exact ⟨⟨_, rfl⟩, rfl⟩
    · walk_at "sy"
      exact ⟨⟨_, rfl⟩, rfl⟩
  rintro Γ' M' ⟨⟨u, rfl⟩, rfl⟩
  walk_at "sy"
  refine e_lcM (α := Nat) (wo_name (by decide)) ?_
  walk_at "sy"
  refine c_lenOwn ⟨_, rfl⟩ ⟨a, ⟨rfl, True.intro⟩, ?_⟩
  rintro d M2 ⟨rfl, rfl⟩
  refine ⟨_, rfl, by omega, ?_⟩
  walk_at "sy"
  refine ⟨by omega, by omega, ?_⟩
  refine ⟨List.range a.parts.length, fun k => .i ((k : Nat) : Int), fun _ => true, fun k => dOut K (a.parts.getD k []), rfl, by rw [List.length_range]; omega, fun k hk => ?_, ?_⟩
  · intro M' l
    have hk := List.mem_range.mp hk
    walk_at "sy"
    refine ⟨rfl, ?_⟩
    walk_at "sy"
    refine ⟨rfl, rfl, fun _ => ?_⟩
    walk_at "sy"
    refine ⟨(a, k), ⟨rfl, hA.ok, hL, hk⟩, ?_⟩
    rintro d M2 ⟨rfl, o, ho, rfl⟩
    refine ⟨?_, rfl⟩
    have ho : a.parts[k]? = some o := ho
    show dOut K o = dOut K (a.parts.getD k [])
    rw [List.getD_eq_getElem?_getD, ho]
    rfl
  have e0 : (List.range a.parts.length).map (fun k => dOut K (a.parts.getD k [])) = a.parts.map (dOut K) := by
    refine List.ext_getElem (by simp) fun i h1 h2 => ?_
    rw [List.length_map] at h2
    simp [List.getD_eq_getElem?_getD, List.getElem?_eq_getElem h2]
  rw [filter_tt, e0]
  walk_at "sy"
  refine ⟨fun i Γ' M' => (∃ u u2 u3, Γ' = [some x, some (.s n), some (dAct K a), u, some (.lst (a.parts.map (dOut K))), u2, u3]) ∧ M = M', ⟨⟨_, _, _, rfl⟩, rfl⟩, ?_, ?_⟩
  · rintro i d Γ' M' hd ⟨⟨u, u2, u3, rfl⟩, rfl⟩
    obtain ⟨o, ho, rfl⟩ := at_map hd
    have ho := List.mem_of_getElem? ho
    walk_at "sy"
    refine ⟨o, ⟨rfl, hA.ok.out o ho, hL⟩, ?_⟩
    rintro d M2 ⟨rfl, ys, rfl, hy⟩
    refine ⟨_, rfl, ?_⟩
    refine ⟨fun i Γ' M' => (∃ u u3, Γ' = [some x, some (.s n), some (dAct K a), u, some (.lst (a.parts.map (dOut K))), some (dOut K o), u3]) ∧ M = M', ⟨⟨_, _, rfl⟩, rfl⟩, ?_, ?_⟩
    · rintro i d Γ' M' hd ⟨⟨u, u3, rfl⟩, rfl⟩
      obtain ⟨z, hz, rfl⟩ := dStrs_at hd
      obtain ⟨c, g1, g2⟩ := get_mem (hy z (List.mem_of_getElem? hz))
      walk_at "sy"
      refine ⟨_, hv, rfl, ?_⟩
      walk_at "sy"
      refine o_ixOwn ⟨_, rfl⟩ ⟨(o, z), ⟨rfl, True.intro⟩, ?_⟩
      rintro d M2 ⟨rfl, rfl⟩
      walk_at "sy"
      refine ⟨(v, z, c), ⟨⟨x, t, by show [x, Dt.s z, gD (o.get z)] = _; rw [g1]; rfl, hv⟩, hw, hA.ch o ho _ g2⟩, ?_⟩
      rintro d M2 ⟨rfl, rfl⟩
      exact ⟨⟨_, _, rfl⟩, rfl⟩
    · rintro Γ' M' ⟨⟨u, u3, rfl⟩, rfl⟩
      exact ⟨⟨_, _, _, rfl⟩, rfl⟩
  rintro Γ' M' ⟨⟨u, u2, u3, rfl⟩, rfl⟩
  walk_at "sy"
  refine e_lcM (α := Out) (wo_name (by decide)) ?_
  walk_at "sy"
  refine ⟨a.parts, dOut K, fun _ => true, fun o => .b (tkr v o), rfl, by omega, fun o ho => ?_, ?_⟩
  · intro M' l
    walk_at "sy"
    refine ⟨rfl, ?_⟩
    walk_at "sy"
    refine ⟨rfl, rfl, fun _ => ?_⟩
    have hv' := vw_le l hv (fun b e => nomatch e)
    walk_at "sy"
    refine ⟨_, hv', rfl, ?_⟩
    walk_at "sy"
    refine ⟨(v, o), ⟨⟨x, t, rfl, hv'⟩, hw⟩, ?_⟩
    rintro d M2 ⟨rfl, rfl⟩
    exact ⟨rfl, rfl⟩
  rw [filter_tt]
  walk_at "sy"
  refine c_all (bs := a.parts.map (tkr v)) (by unfold dBls; rw [List.map_map]; rfl) ⟨_, rfl, iF ?_ ?_⟩
  · obtain ⟨o, h1, h2⟩ := hA.free
    rw [List.all_map, List.all_eq_false]
    exact ⟨o, h1, by show ¬ tkr v o = true; rw [h2]; exact Bool.false_ne_true⟩
  walk_at "sy"
  exact ⟨rfl, rfl⟩
end
end K85
set_option maxRecDepth 100000
set_option maxHeartbeats 4000000
/-! worlds: states, steps -/
namespace K85
open PySem L2
open C8 (Cal Met Mak pe_c pe_mk pe_mt pe_mt0 pe_gc)
local macro_rules | `(tactic| walk_at "sy1") => `(tactic| with_reducible first
  | refine r_seq ?_ | refine r_if ?_ | refine r_ret ?_ | refine r_retN ?_ | refine r_asg ?_ | refine r_drop ?_ | refine r_brk ?_ | refine r_cont ?_ | refine r_fld ?_ | refine r_dput ?_ | refine r_for ?_ | refine r_next ?_
  | refine g_name ?_ | refine g_tup ?_ | refine g_unl ?_ | refine g_cons ?_ | refine g_nil ?_
  | refine t_test ?_ | refine t_B ?_ | refine t_not ?_ | refine t_and ?_ | refine t_or ?_ | refine t_yes ?_
  | refine e_var rfl ?_ | refine e_int ?_ | refine e_str ?_ | refine e_bl ?_ | refine e_non ?_ | refine e_ref ?_ | refine e_op ?_ | refine e_un ?_ | refine e_andV ?_ | refine e_orV ?_ | refine e_notV ?_ | refine e_if ?_ | refine e_isN ?_ | refine e_notN ?_
  | refine e_tup ?_ | refine e_fld ?_ | refine e_call0 ?_ | refine e_meth0 ?_ | refine e_cb ?_ | refine e_bm ?_ | refine e_dget ?_ | refine e_dget1 ?_ | refine e_din ?_ | refine e_dnotin ?_ | refine e_chain ?_ | refine e_fcall ?_ | refine e_sm ?_
  | refine a_nil ?_ | refine a_cons ?_ | refine i_list ?_ | refine i_tup ?_ | refine i_seq ?_ | refine i_rng1 ?_ | refine i_str ?_
  | refine s_none ?_ | refine s_some ?_ | refine e_slL ?_ | refine e_slT ?_
  | refine o_II ?_ | refine o_IB ?_)
local macro_rules | `(tactic| walk_at "sy") => `(tactic| repeat (first | walk_at "sy1" | refine ⟨_, rfl, ?_⟩ | refine ⟨(rfl : List.lookup _ _ = none), ?_⟩))
local macro_rules | `(tactic| walk_at "eqF") => `(tactic| (refine o_eq rfl rfl rfl ?_; walk_at "sy"; refine iF (by decide +kernel) ?_; walk_at "sy"))
local macro_rules | `(tactic| walk_at "eqT") => `(tactic| (refine o_eq rfl rfl rfl ?_; walk_at "sy"; refine iT (by decide +kernel) ?_; walk_at "sy"))
local macro_rules | `(tactic| walk_at "pureEnd") => `(tactic| (rintro d M' ⟨rfl, rfl⟩))
abbrev s_World_states : Stmt := inClass (top 31) 12
theorem sc_World_states : FnScope ["self", "found", "name", "larger", "state"] ["self"] (defScope s_World_states) := ⟨rfl, rfl, rfl, by decide +kernel, rfl, by decide +kernel, by decide +kernel⟩
abbrev s_World_state_of : Stmt := inClass (top 31) 13
theorem sc_World_state_of : FnScope ["self", "names", "known", "name"] ["self", "names"] (defScope s_World_state_of) := ⟨rfl, rfl, rfl, by decide +kernel, rfl, by decide +kernel, by decide +kernel⟩
abbrev s_World_fits : Stmt := inClass (top 31) 14
theorem sc_World_fits : FnScope ["self", "state", "name", "action", "k", "outcome", "pile"] ["self", "state", "name"] (defScope s_World_fits) := ⟨rfl, rfl, rfl, by decide +kernel, rfl, by decide +kernel, by decide +kernel⟩
abbrev s_World_possible : Stmt := inClass (top 31) 15
theorem sc_World_possible : FnScope ["self", "state", "name"] ["self", "state"] (defScope s_World_possible) := ⟨rfl, rfl, rfl, by decide +kernel, rfl, by decide +kernel, by decide +kernel⟩
abbrev s_World_checked : Stmt := inClass (top 31) 16
theorem sc_World_checked : FnScope ["self", "state", "action"] ["self", "state", "action"] (defScope s_World_checked) := ⟨rfl, rfl, rfl, by decide +kernel, rfl, by decide +kernel, by decide +kernel⟩
abbrev s_World_behind : Stmt := inClass (top 31) 17
theorem sc_World_behind : FnScope ["self", "state", "outcome", "gone", "found", "name", "change", "held"] ["self", "state", "outcome", "gone"] (defScope s_World_behind) := ⟨rfl, rfl, rfl, by decide +kernel, rfl, by decide +kernel, by decide +kernel⟩
abbrev s_World_results : Stmt := inClass (top 31) 18
theorem sc_World_results : FnScope ["self", "state", "action", "found", "index", "outcome", "gone", "pile"] ["self", "state", "action"] (defScope s_World_results) := ⟨rfl, rfl, rfl, by decide +kernel, rfl, by decide +kernel, by decide +kernel⟩
abbrev s_World_shifts : Stmt := inClass (top 31) 20
theorem sc_World_shifts : FnScope ["self", "state", "action", "index", "outcome", "taken", "name"] ["self", "state", "action", "index"] (defScope s_World_shifts) := ⟨rfl, rfl, rfl, by decide +kernel, rfl, by decide +kernel, by decide +kernel⟩
structure WdOk (w : Wd) : Prop where
  nms : NmsOk w
  act : ∀ p ∈ w.table, ActIn w p.2
  nd : (w.table.map (·.1)).Nodup
  nm : ∀ p ∈ w.table, NameOk p.1
  len : w.table.length ≤ 8
def tget (t : List (Str × Act)) (n : Str) : Option Act := (t.find? fun p => decide (p.1 = n)).map (·.2)
def stepS (l : List (List Str)) (n : Str) : List (List Str) := l.flatMap fun s => [s, s ++ [n]]
def statesL (ns : List Str) : List (List Str) := ns.foldl stepS [[]]
def StOf (w : Wd) (s : List Str) : Prop := s = w.seen.filter fun x => decide (x ∈ s)
def okOut (w : Wd) (s : List Str) (o : Out) : Bool := !(w.piles.any fun p => decide (o.get p = some .take) && !decide (p ∈ s))
def fitsA (w : Wd) (s : List Str) (a : Act) : Bool := a.need.holds s && a.parts.all (okOut w s)
def heldA (o : Out) (s g : List Str) (x : Str) : Bool := match o.get x with
  | some .take => !decide (x ∈ g)
  | none => decide (x ∈ s)
  | some c => decide (c = .tru ∨ c = .add)
def behindA (w : Wd) (s : List Str) (o : Out) (g : List Str) : List Str := w.seen.filter (heldA o s g)
abbrev S_states (K : PySem.W.Frag) : FS := ⟨Wd, fun w ds _ M => (∃ x t, ds = [x] ∧ vw M x = dWdT K w t) ∧ NmsOk w, fun w M d M' => M = M' ∧ d = .lst (dSts (statesL w.seen))⟩
abbrev S_state_of (K : PySem.W.Frag) : FS := ⟨Wd × List Str, fun a ds _ M => (∃ x t, ds = [x, .tup (dStrs a.2)] ∧ vw M x = dWdT K a.1 t) ∧ NmsOk a.1 ∧ StOf a.1 a.2, fun a M d M' => M = M' ∧ d = .tup (dStrs a.2)⟩
abbrev S_fits (K : PySem.W.Frag) : FS := ⟨Wd × List Str × Str × Act, fun a ds L M => ds = [dWd K a.1, .tup (dStrs a.2.1), .s a.2.2.1] ∧ WdOk a.1 ∧ tget a.1.table a.2.2.1 = some a.2.2.2 ∧ NoFlat L, fun a M d M' => M = M' ∧ d = .b (fitsA a.1 a.2.1 a.2.2.2)⟩
abbrev S_possible (K : PySem.W.Frag) : FS := ⟨Wd × List Str, fun a ds L M => ds = [dWd K a.1, .tup (dStrs a.2)] ∧ WdOk a.1 ∧ StOf a.1 a.2 ∧ ∀ x, L x = none, fun a M d M' => M = M' ∧ d = .lst (dStrs ((a.1.table.filter fun p => fitsA a.1 a.2 p.2).map (·.1)))⟩
abbrev S_checked (K : PySem.W.Frag) : FS := ⟨Wd × List Str × Str × Act, fun a ds L M => ds = [dWd K a.1, .tup (dStrs a.2.1), .s a.2.2.1] ∧ WdOk a.1 ∧ tget a.1.table a.2.2.1 = some a.2.2.2 ∧ NoFlat L ∧ StOf a.1 a.2.1 ∧ fitsA a.1 a.2.1 a.2.2.2 = true, fun a M d M' => M = M' ∧ d = .tup (dStrs a.2.1)⟩
abbrev S_behind (K : PySem.W.Frag) : FS := ⟨Wd × List Str × Out × List Str, fun a ds _ M => (∃ x t, ds = [x, .tup (dStrs a.2.1), dOut K a.2.2.1, .tup (dStrs a.2.2.2)] ∧ vw M x = dWdT K a.1 t) ∧ NmsOk a.1, fun a M d M' => M = M' ∧ d = .tup (dStrs (behindA a.1 a.2.1 a.2.2.1 a.2.2.2))⟩
def takes (w : Wd) (o : Out) : List Str := w.piles.filter fun p => decide (o.get p = some .take)
def resO (w : Wd) (s : List Str) (o : Out) (k : Nat) : List (Nat × List Str × List Str) := (subT (takes w o)).map fun g => (k, g, behindA w s o g)
def resA (w : Wd) (s : List Str) (a : Act) : List (Nat × List Str × List Str) := (List.range a.parts.length).flatMap fun k => resO w s (a.parts.getD k []) k
def dRes (r : Nat × List Str × List Str) : Dt := .tup [.i (r.1 : Nat), .tup (dStrs r.2.1), .tup (dStrs r.2.2)]
abbrev S_results (K : PySem.W.Frag) : FS := ⟨Wd × List Str × Str × Act, fun a ds L M => ds = [dWd K a.1, .tup (dStrs a.2.1), .s a.2.2.1] ∧ WdOk a.1 ∧ tget a.1.table a.2.2.1 = some a.2.2.2 ∧ NoFlat L ∧ StOf a.1 a.2.1 ∧ fitsA a.1 a.2.1 a.2.2.2 = true, fun a M d M' => M = M' ∧ d = .lst ((resA a.1 a.2.1 a.2.2.2).map dRes)⟩
def takenA (o : Out) (s : List Str) (x : Str) : Bool := decide (o.get x = some .take) || (decide (o.get x = some .emp) && decide (x ∈ s))
def addedA (o : Out) (x : Str) : Bool := decide (o.get x = some .add)
abbrev S_shifts (K : PySem.W.Frag) : FS := ⟨Wd × List Str × Str × Act × Nat × Out, fun a ds L M => ds = [dWd K a.1, .tup (dStrs a.2.1), .s a.2.2.1, .i (a.2.2.2.2.1 : Nat)] ∧ WdOk a.1 ∧ tget a.1.table a.2.2.1 = some a.2.2.2.1 ∧ NoFlat L ∧ StOf a.1 a.2.1 ∧ fitsA a.1 a.2.1 a.2.2.2.1 = true ∧ a.2.2.2.1.parts[a.2.2.2.2.1]? = some a.2.2.2.2.2,
  fun a M d M' => M = M' ∧ d = .tup [.tup (dStrs (a.1.counters.filter (takenA a.2.2.2.2.2 a.2.1))), .tup (dStrs (a.1.counters.filter (addedA a.2.2.2.2.2)))]⟩
section
variable {P : Program} {w : World} {K : PySem.W.Frag} {mg : Str → Option Value} {base : Heap}
theorem foldl_take {α β : Type} {f : β → α → β} {b : β} {l : List α} {i : Nat} {x : α} (h : l[i]? = some x) : (l.take (i + 1)).foldl f b = f ((l.take i).foldl f b) x := by
  rw [take_one h, List.foldl_append]
  rfl
theorem stepS_len (l : List (List Str)) (n : Str) : (stepS l n).length = 2 * l.length := by
  unfold stepS
  induction l with
  | nil => rfl
  | cons s l ih =>
    rw [List.flatMap_cons, List.length_append, ih, List.length_cons]
    simp
    omega
theorem fold_len (ns : List Str) : ∀ l, (ns.foldl stepS l).length = 2 ^ ns.length * l.length := by
  induction ns with
  | nil => intro l; simp
  | cons n ns ih =>
    intro l
    rw [List.foldl_cons, ih, stepS_len, List.length_cons, Nat.pow_succ]
    rw [Nat.mul_assoc]
theorem fold_el (ns : List Str) : ∀ l : List (List Str), ∀ m, (∀ s ∈ l, s.length ≤ m) → ∀ s ∈ ns.foldl stepS l, s.length ≤ m + ns.length := by
  induction ns with
  | nil => intro l m h s hs; have := h s hs; simpa using this
  | cons n ns ih =>
    intro l m h s hs
    rw [List.foldl_cons] at hs
    have := ih _ (m + 1) (fun t ht => by
      unfold stepS at ht
      rw [List.mem_flatMap] at ht
      obtain ⟨u, hu, ht⟩ := ht
      have := h u hu
      simp at ht
      rcases ht with rfl | rfl
      · omega
      · simp; omega) s hs
    rw [List.length_cons]
    omega
theorem ok_states (T : Tx K mg) (D : Md K (cl K "World") "states" "World.states" s_World_states) (mS : Met P w K mg base 1 (cl K "World") "seen" (S_seen K).sp []) : Met P w K mg base 2 (cl K "World") "states" (S_states K).sp [] := by
  refine met_sym T.cWd D sc_World_states (fun _ _ _ _ _ _ us hl => match us, hl with | [_], _ => rfl) (fun a ds L M h => by obtain ⟨⟨x, t, rfl, _⟩, _⟩ := h; rfl) (fun f cdv A outer s H E hr => ⟨_, pss_cons (ps_set (i := 1) sc_World_states.nd rfl (Or.inl rfl) (pe_lst (pa_cons (pe_tup pa_nil) pa_nil))) (pss_cons (ps_for PassesOwn.never rfl (pi_list (pe_mt0 mS hr (by omega) (pv 0))) (pg_name (i := 2) sc_World_states.nd rfl (Or.inl rfl)) (pss_cons (ps_set (i := 3) sc_World_states.nd rfl (Or.inl rfl) (pe_lst pa_nil)) (pss_cons (ps_for PassesOwn.never rfl (pi_list (pv 1)) (pg_name (i := 4) sc_World_states.nd rfl (Or.inl rfl)) (pss_one (ps_expr (pe_bm PySem.F.plainAttrs_list PySem.F.slot_list_extend PySem.F.type_list_extend mt_extend (pv 3) (pa_cons (pe_lst (pa_cons (pv 4) (pa_cons (pe_op op_catA (pv 4) (pe_tup (pa_cons (pv 2) pa_nil))) pa_nil))) pa_nil))))) (pss_one (ps_set (i := 1) sc_World_states.nd rfl (Or.inl rfl) (pv 3)))))) (pss_one (ps_ret (pv 1)))), fun (v : Wd) ds L M h => ?_⟩)
  obtain ⟨⟨x, t, rfl, hv⟩, hw⟩ := h
  have hl := len_sub hw
  have hsl : v.seen.length ≤ 8 := by unfold Wd.seen; rw [List.length_append]; omega
  walk_at "sy"
  refine e_lst ?_
  walk_at "sy"
  refine ⟨by simp, ?_⟩
  walk_at "sy"
  refine ⟨by simp, ?_⟩
  walk_at "sy"
  refine ⟨_, hv, rfl, ?_⟩
  walk_at "sy"
  refine ⟨v, ⟨⟨x, t, rfl, hv⟩, hw⟩, ?_⟩
  rintro d M2 ⟨rfl, rfl⟩
  refine ⟨_, rfl, ?_⟩
  refine ⟨fun i Γ' M' => (∃ u u3 u4, Γ' = [some x, some (.lst (dSts ((v.seen.take i).foldl stepS [[]]))), u, u3, u4]) ∧ ∀ b e, M b = some e → M' b = some e, ⟨⟨none, none, none, rfl⟩, fun b e h => h⟩, ?_, ?_⟩
  · rintro i d Γ' M' hd ⟨⟨u, u3, u4, rfl⟩, hM⟩
    obtain ⟨n, hn, rfl⟩ := dStrs_at hd
    have hi := (List.getElem?_eq_some_iff.mp hn).1
    generalize hlq : (v.seen.take i).foldl stepS [[]] = l
    have hll : l.length ≤ 256 := by
      rw [← hlq, fold_len, List.length_take]
      have : 2 ^ min i v.seen.length ≤ 2 ^ 8 := Nat.pow_le_pow_right (by decide) (by omega)
      simp
      omega
    have hel : ∀ s ∈ l, s.length ≤ 8 := fun s hs => by
      rw [← hlq] at hs
      have := fold_el (v.seen.take i) [[]] 0 (by simp) s hs
      rw [List.length_take] at this
      omega
    walk_at "sy"
    refine e_lstO ?_
    walk_at "sy"
    refine ⟨by simp, fun a ha => ?_⟩
    walk_at "sy"
    refine ⟨fun j Γ' M2 => (∃ u4, Γ' = [some x, some (.lst (dSts l)), some (.s n), some (.adr a), u4]) ∧ M2 = mset M' a (.lst (dSts (stepS (l.take j) n))), ⟨⟨_, rfl⟩, rfl⟩, ?_, ?_⟩
    · rintro j d Γ' M2 hd ⟨⟨u4, rfl⟩, rfl⟩
      obtain ⟨s, hs, rfl⟩ := at_map hd
      have hj := (List.getElem?_eq_some_iff.mp hs).1
      walk_at "sy"
      refine ⟨_, vw_adr mset_same, ?_⟩
      walk_at "sy"
      refine e_lst ?_
      walk_at "sy"
      refine ⟨by simp, ?_⟩
      refine o_catT (bs := [.s n]) (by have := hel s (List.mem_of_getElem? hs); simp [dStrs]; omega) ?_
      walk_at "sy"
      refine ⟨by simp, ?_⟩
      walk_at "sy"
      refine m_ext mset_same rfl ?_ ?_
      · simp only [dSts, List.length_map, stepS_len, List.length_take, List.length_cons, List.length_nil]
        omega
      · refine ⟨⟨_, rfl⟩, ?_⟩
        rw [mset_mset, take_one hs]
        unfold stepS dSts
        rw [List.flatMap_append, List.map_append]
        simp [dStrs]
    · rintro Γ' M2 ⟨⟨u4, rfl⟩, rfl⟩
      refine r_asg (e_frz ?_)
      walk_at "sy"
      refine ⟨_, _, rfl, mset_same, ?_⟩
      walk_at "sy"
      rw [mdel_mset ha]
      refine ⟨⟨some (.s n), some (.adr a), u4, ?_⟩, hM⟩
      rw [foldl_take hn, hlq]
      have e : (dSts l).length = l.length := by simp [dSts]
      rw [e, List.take_length]
      rfl
  · rintro Γ' M' ⟨⟨u, u3, u4, rfl⟩, hM⟩
    refine Run.post ?_
    walk_at "sy"
    refine ⟨_, M, (VwM.less hM).val, rfl, ?_⟩
    have e : (dStrs v.seen).length = v.seen.length := by simp [dStrs]
    rw [e, List.take_length]
    rfl
theorem stOf_nd {w : Wd} (hw : NmsOk w) {s : List Str} (h : StOf w s) : s.Nodup ∧ ∀ x ∈ s, x ∈ w.seen := by
  have h1 : w.seen.Nodup := (List.nodup_append.mp hw.nd).1
  constructor
  · rw [h]
    exact h1.filter _
  · intro x hx
    rw [h] at hx
    exact (List.mem_filter.mp hx).1
theorem stOf_len {w : Wd} (hw : NmsOk w) {s : List Str} (h : StOf w s) : s.length ≤ 8 := by
  rw [h]
  have h1 := List.length_filter_le (fun x => decide (x ∈ s)) w.seen
  have := len_sub hw
  unfold Wd.seen at h1 ⊢
  rw [List.length_append] at h1
  omega
theorem ok_state_of (T : Tx K mg) (D : Md K (cl K "World") "state_of" "World.state_of" s_World_state_of) (mS : Met P w K mg base 1 (cl K "World") "seen" (S_seen K).sp []) : Met P w K mg base 2 (cl K "World") "state_of" (S_state_of K).sp [] := by
  refine met_sym T.cWd D sc_World_state_of (fun _ _ _ _ _ _ us hl => match us, hl with | [_, _], _ => rfl) (fun a ds L M h => by obtain ⟨⟨x, t, rfl, _⟩, _⟩ := h; rfl) (fun f cdv A outer s H E hr => ⟨_, pss_cons (ps_set (i := 2) sc_World_state_of.nd rfl (Or.inl rfl) (pe_mt0 mS hr (by omega) (pv 0))) (pss_cons (ps_for PassesOwn.never rfl (pi_tup (pv 1)) (pg_name (i := 3) sc_World_state_of.nd rfl (Or.inl rfl)) (pss_one (ps_if (PW.pt (pw_or (pt_cmpR op_notIn_seq (pv 3) (pv 2) rfl) (pw_or1 (pt_cmpR op_gt (pe_bm PySem.F.plainAttrs_list PySem.F.slot_list_count PySem.F.type_list_count mt_scount (pe_callTy call_list_of (by rfl) T.f_list (by decide +kernel) (pa_cons (pv 1) pa_nil)) (pa_cons (pv 3) pa_nil)) pe_int (nomark _))))) (pss_one ps_never) pss_nil))) (pss_one (ps_ret (pe_callTy call_tuple_of (by rfl) T.f_tuple (by decide +kernel) (pa_cons (pe_lc (own := [("name", 3)]) rfl sc_World_state_of.nd (pi_list (pv 2)) (blkOk_by (own := [("name", 3)]) (N := ["self", "names", "known", "name"]) (sc := defScope s_World_state_of) (by decide +kernel)) (fun _ _ _ _ _ => (pg_name (i := 3) sc_World_state_of.nd rfl (Or.inl rfl))) (fun _ _ _ _ _ => (pts_one (pt_cmpR (show OpR _ _ (rIn K false) from op_in_seq) (pv 3) (pv 1) rfl))) (fun _ _ _ _ _ => (pv 3))) pa_nil))))), fun (v, st) ds L M h => ?_⟩)
  obtain ⟨⟨x, t, rfl, hv⟩, hw, hs⟩ := h
  have hv : vw M x = dWdT K v t := hv
  have hs : StOf v st := hs
  obtain ⟨n1, n2⟩ := stOf_nd hw hs
  have hl := len_sub hw
  have hsl : v.seen.length ≤ 8 := by
    have : v.facts.length + v.piles.length + v.reserves.length ≤ 8 := hl
    unfold Wd.seen
    rw [List.length_append]
    omega
  walk_at "sy"
  refine ⟨_, hv, rfl, ?_⟩
  walk_at "sy"
  refine ⟨v, ⟨⟨x, t, rfl, hv⟩, hw⟩, ?_⟩
  rintro d M2 ⟨rfl, rfl⟩
  walk_at "sy"
  refine ⟨fun i Γ' M' => (∃ u, Γ' = [some x, some (.tup (dStrs st)), some (.lst (dStrs v.seen)), u]) ∧ M = M', ⟨⟨none, rfl⟩, rfl⟩, ?_, ?_⟩
  · rintro i d Γ' M' hd ⟨⟨u, rfl⟩, rfl⟩
    obtain ⟨z, hz, rfl⟩ := dStrs_at hd
    have hz := List.mem_of_getElem? hz
    walk_at "sy"
    refine o_inS (.inl rfl) ⟨_, rfl, iF (by simp only [if_true]; rw [decide_eq_true (n2 z hz)]; rfl) ?_⟩
    walk_at "sy"
    refine c_list (.inr rfl) ⟨_, rfl, ?_⟩
    walk_at "sy"
    refine m_count rfl ?_
    walk_at "sy"
    refine iF ?_ ?_
    · have := List.nodup_iff_count.mp n1 z
      rw [decide_eq_false_iff_not]
      show ¬ (1 : Int) < _
      omega
    · walk_at "sy"
      exact ⟨⟨_, rfl⟩, rfl⟩
  · rintro Γ' M' ⟨⟨u, rfl⟩, rfl⟩
    walk_at "sy"
    refine e_lcM (α := Str) (wo_name (by decide)) ?_
    walk_at "sy"
    refine ⟨v.seen, Dt.s, fun z => decide (z ∈ st), Dt.s, rfl, by omega, fun z hz => ?_, ?_⟩
    · intro M' l
      walk_at "sy"
      refine ⟨rfl, ?_⟩
      walk_at "sy"
      refine o_inS (.inr rfl) ⟨_, rfl, rfl, rfl, fun _ => ?_⟩
      walk_at "sy"
      exact ⟨rfl, rfl⟩
    · walk_at "sy"
      refine c_tuple (.inl rfl) ⟨rfl, ?_⟩
      show Dt.tup (dStrs (v.seen.filter fun z => decide (z ∈ st))) = .tup (dStrs st)
      rw [← hs]
end
end K85
set_option maxRecDepth 100000
set_option maxHeartbeats 4000000
/-! worlds: what is possible, results -/
namespace K85
open PySem L2
open C8 (Cal Met Mak pe_c pe_mk pe_mt pe_mt0 pe_gc)
local macro_rules | `(tactic| walk_at "sy1") => `(tactic| with_reducible first
  | refine r_seq ?_ | refine r_if ?_ | refine r_ret ?_ | refine r_retN ?_ | refine r_asg ?_ | refine r_drop ?_ | refine r_brk ?_ | refine r_cont ?_ | refine r_fld ?_ | refine r_dput ?_ | refine r_for ?_ | refine r_next ?_
  | refine g_name ?_ | refine g_tup ?_ | refine g_unl ?_ | refine g_cons ?_ | refine g_nil ?_
  | refine t_test ?_ | refine t_B ?_ | refine t_not ?_ | refine t_and ?_ | refine t_or ?_ | refine t_yes ?_
  | refine e_var rfl ?_ | refine e_int ?_ | refine e_str ?_ | refine e_bl ?_ | refine e_non ?_ | refine e_ref ?_ | refine e_op ?_ | refine e_un ?_ | refine e_andV ?_ | refine e_orV ?_ | refine e_notV ?_ | refine e_if ?_ | refine e_isN ?_ | refine e_notN ?_
  | refine e_tup ?_ | refine e_fld ?_ | refine e_call0 ?_ | refine e_meth0 ?_ | refine e_cb ?_ | refine e_bm ?_ | refine e_dget ?_ | refine e_dget1 ?_ | refine e_din ?_ | refine e_dnotin ?_ | refine e_chain ?_ | refine e_fcall ?_ | refine e_sm ?_
  | refine a_nil ?_ | refine a_cons ?_ | refine i_list ?_ | refine i_tup ?_ | refine i_seq ?_ | refine i_rng1 ?_ | refine i_str ?_
  | refine s_none ?_ | refine s_some ?_ | refine e_slL ?_ | refine e_slT ?_
  | refine o_II ?_ | refine o_IB ?_)
local macro_rules | `(tactic| walk_at "sy") => `(tactic| repeat (first | walk_at "sy1" | refine ⟨_, rfl, ?_⟩ | refine ⟨(rfl : List.lookup _ _ = none), ?_⟩))
local macro_rules | `(tactic| walk_at "eqF") => `(tactic| (refine o_eq rfl rfl rfl ?_; walk_at "sy"; refine iF (by decide +kernel) ?_; walk_at "sy"))
local macro_rules | `(tactic| walk_at "eqT") => `(tactic| (refine o_eq rfl rfl rfl ?_; walk_at "sy"; refine iT (by decide +kernel) ?_; walk_at "sy"))
local macro_rules | `(tactic| walk_at "pureEnd") => `(tactic| (rintro d M' ⟨rfl, rfl⟩))
section
variable {P : Program} {w : World} {K : PySem.W.Frag} {mg : Str → Option Value} {base : Heap}
theorem kTab_look (t : List (Str × Act)) (n : Str) : lookA (kTab K t) n = (tget t n).map (dAct K) := by
  unfold lookA kTab tget
  induction t with
  | nil => rfl
  | cons p t ih =>
    rw [List.map_cons, List.find?_cons, List.find?_cons]
    by_cases h : p.1 = n
    · simp [h]
    · simp only [h, decide_false]
      exact ih
theorem tget_mem {t : List (Str × Act)} {n : Str} {a : Act} (h : tget t n = some a) : (n, a) ∈ t := by
  unfold tget at h
  obtain ⟨p, h1, h2⟩ := Option.map_eq_some_iff.mp h
  have h3 := List.find?_some h1
  have h4 := List.mem_of_find?_eq_some h1
  rw [decide_eq_true_eq] at h3
  rw [← h2, ← h3]
  exact h4
theorem tget_at {t : List (Str × Act)} (nd : (t.map (·.1)).Nodup) {p : Str × Act} (h : p ∈ t) : tget t p.1 = some p.2 := by
  unfold tget
  induction t with
  | nil => simp at h
  | cons q t ih =>
    rw [List.find?_cons]
    rw [List.map_cons, List.nodup_cons] at nd
    rcases List.mem_cons.mp h with rfl | h
    · simp
    · have hne : q.1 ≠ p.1 := fun e => nd.1 (e ▸ List.mem_map.mpr ⟨p, h, rfl⟩)
      simp only [hne, decide_false]
      exact ih nd.2 h
theorem ok_fits (T : Tx K mg) (D : Md K (cl K "World") "fits" "World.fits" s_World_fits) (dC : Dun P w K mg base 7 (cl K "Condition") "__call__" (S_Ccall K).sp) (dL : Dun P w K mg base 1 (cl K "Action") "__len__" (S_Alen K).sp) (mO : Met P w K mg base 6 (cl K "Action") "outcome" (S_Aout K).sp []) (dG : Dun P w K mg base 1 (cl K "Outcome") "__getitem__" (S_Oget K).sp) : Met P w K mg base 9 (cl K "World") "fits" (S_fits K).sp [] := by
  refine met_sym T.cWd D sc_World_fits (fun _ _ _ _ _ _ us hl => match us, hl with | [_, _, _], _ => rfl) (fun a ds L M h => by obtain ⟨rfl, _⟩ := h; rfl) (fun f cdv A outer s H E hr => ⟨_, pss_cons (ps_set (i := 3) sc_World_fits.nd rfl (Or.inl rfl) (pe_dget (hu_of hr) (pe_fld (pv 0) rfl) (pv 2) (fun _ _ => rfl))) (pss_cons (ps_if (pt_not (pt_val (pe_fc dC hr (by omega) (pv 3) (pa_cons (pv 1) pa_nil)))) (pss_one (ps_ret pe_bl)) pss_nil) (pss_cons (ps_for PassesOwn.never rfl (pi_range1 (by rfl) T.f_range (pa_cons (pe_callB (cr_lenO dL hr (by omega)) (by rfl) T.f_len (by decide +kernel) (pa_cons (pv 3) pa_nil)) pa_nil)) (pg_name (i := 4) sc_World_fits.nd rfl (Or.inl rfl)) (pss_cons (ps_set (i := 5) sc_World_fits.nd rfl (Or.inr rfl) (pe_mt mO hr (by omega) (pv 3) (pa_cons (pv 4) pa_nil))) (pss_one (ps_if (pt_val (pe_callB (cr_any rfl) (by rfl) T.f_any (by decide +kernel) (pa_cons (pe_lc (own := [("pile", 6)]) rfl sc_World_fits.nd (pi_list (pe_fld (pv 0) rfl)) (blkOk_by (own := [("pile", 6)]) (N := ["self", "state", "name", "action", "k", "outcome", "pile"]) (sc := defScope s_World_fits) (by decide +kernel)) (fun _ _ _ _ _ => (pg_name (i := 6) sc_World_fits.nd rfl (Or.inl rfl))) (fun _ _ _ _ _ => pts_nil) (fun _ _ _ _ _ => (pe_and (pe_cmpR op_eq (pe_ixO (pv 5) (pv 6) dG hr (by omega)) pe_str (nomark _)) (pe_one (pe_cmpR (show OpR _ _ (rIn K true) from op_notIn_seq) (pv 6) (pv 1) rfl))))) pa_nil))) (pss_one (ps_ret pe_bl)) pss_nil)))) (pss_one (ps_ret pe_bl)))), fun (v, st, n, a) ds L M h => ?_⟩)
  obtain ⟨rfl, hw, ha, hL⟩ := h
  have ha : tget v.table n = some a := ha
  have hA := hw.act _ (tget_mem ha)
  have hA : ActIn v a := hA
  have hp : a.parts.length ≤ 16 := hA.ok.len
  have hl := len_sub hw.nms
  have hl : v.facts.length + v.piles.length + v.reserves.length ≤ 8 := hl
  walk_at "sy"
  refine ⟨_, _, _, rfl, T.cWd, T.n_table, rfl, ?_⟩
  walk_at "sy"
  refine .inl ⟨_, _, rfl, rfl, dAct K a, by rw [kTab_look, ha]; rfl, ?_⟩
  walk_at "sy"
  refine ⟨_, _, fCond a.need.d, rfl, T.cAct, T.n_need, rfl, ?_⟩
  walk_at "sy"
  refine ⟨(a.need, false, st), ⟨rfl, hA.dep.1⟩, ?_⟩
  rintro d M2 ⟨rfl, rfl⟩
  refine ⟨_, rfl, iB (fun e0 => ?_) (fun e0 => ?_)⟩
  · walk_at "sy"
    refine ⟨rfl, ?_⟩
    show Dt.b false = Dt.b (a.need.holds st && _)
    rw [show a.need.holds st = false by simpa using e0]
    rfl
  have e0 : a.need.holds st = true := by simpa using e0
  walk_at "sy"
  refine c_lenOwn ⟨_, rfl⟩ ⟨a, ⟨rfl, True.intro⟩, ?_⟩
  rintro d M2 ⟨rfl, rfl⟩
  refine ⟨_, rfl, by omega, ?_⟩
  walk_at "sy"
  refine ⟨by omega, by omega, ?_⟩
  refine ⟨fun i Γ' M' => (∃ u4 u5 u6, Γ' = [some (dWd K v), some (.tup (dStrs st)), some (.s n), some (dAct K a), u4, u5, u6]) ∧ M = M' ∧ ∀ o ∈ a.parts.take i, okOut v st o = true, ⟨⟨none, none, none, rfl⟩, rfl, by simp⟩, ?_, ?_⟩
  · rintro i d Γ' M' hd ⟨⟨u4, u5, u6, rfl⟩, rfl, hall⟩
    obtain ⟨k, hk, rfl⟩ := at_map hd
    have hk1 := (List.getElem?_eq_some_iff.mp hk).2
    have hk0 := (List.getElem?_eq_some_iff.mp hk).1
    rw [List.getElem_range] at hk1
    subst hk1
    have hk : i < a.parts.length := by simpa using hk0
    walk_at "sy"
    refine ⟨(a, i), ⟨rfl, hA.ok, hL, hk⟩, ?_⟩
    rintro d M2 ⟨rfl, o, ho, rfl⟩
    have ho : a.parts[i]? = some o := ho
    walk_at "sy"
    refine e_lcM (α := Str) (wo_name (by decide)) ?_
    walk_at "sy"
    refine ⟨_, _, _, rfl, T.cWd, T.n_piles, rfl, ?_⟩
    refine ⟨_, rfl, ?_⟩
    refine ⟨v.piles, Dt.s, fun _ => true, fun p => .b (decide (o.get p = some .take) && !decide (p ∈ st)), rfl, by omega, fun p hp => ?_, ?_⟩
    · intro M' l
      walk_at "sy"
      refine ⟨rfl, ?_⟩
      walk_at "sy"
      refine ⟨rfl, rfl, fun _ => ?_⟩
      walk_at "sy"
      refine o_ixOwn ⟨_, rfl⟩ ⟨(o, p), ⟨rfl, True.intro⟩, ?_⟩
      rintro d M2 ⟨rfl, rfl⟩
      walk_at "sy"
      refine o_isCh .take (.inr (.inl rfl)) ⟨_, rfl, iB (fun e => ?_) (fun e => ?_)⟩
      · walk_at "sy"
        refine o_inS (.inr rfl) ⟨?_, rfl⟩
        show Dt.b _ = Dt.b (decide (o.get p = some .take) && !decide (p ∈ st))
        rw [show decide (o.get p = some Ch.take) = true from e]
        rfl
      · refine ⟨?_, rfl⟩
        show Dt.b _ = Dt.b (decide (o.get p = some .take) && !decide (p ∈ st))
        rw [show decide (o.get p = some Ch.take) = false from e]
        rfl
    · rw [filter_tt]
      walk_at "sy"
      refine c_any (bs := v.piles.map fun p => decide (o.get p = some .take) && !decide (p ∈ st)) (by unfold dBls; rw [List.map_map]; rfl) ⟨_, rfl, iB (fun e => ?_) (fun e => ?_)⟩
      · walk_at "sy"
        refine ⟨rfl, ?_⟩
        show Dt.b false = Dt.b (a.need.holds st && a.parts.all (okOut v st))
        have : a.parts.all (okOut v st) = false := by
          rw [List.all_eq_false]
          refine ⟨o, List.mem_of_getElem? ho, ?_⟩
          unfold okOut
          rw [List.any_map] at e
          rw [show (v.piles.any fun p => decide (o.get p = some .take) && !decide (p ∈ st)) = true from e]
          exact Bool.false_ne_true
        rw [this, Bool.and_false]
      · walk_at "sy"
        refine ⟨⟨_, _, _, rfl⟩, rfl, fun o' ho' => ?_⟩
        rw [take_one ho, List.mem_append, List.mem_singleton] at ho'
        rcases ho' with ho' | rfl
        · exact hall o' ho'
        · unfold okOut
          rw [List.any_map] at e
          rw [show (v.piles.any fun p => decide (o'.get p = some .take) && !decide (p ∈ st)) = false from e]
          rfl
  · rintro Γ' M' ⟨⟨u4, u5, u6, rfl⟩, rfl, hall⟩
    walk_at "sy"
    refine ⟨rfl, ?_⟩
    show Dt.b true = Dt.b (a.need.holds st && a.parts.all (okOut v st))
    have e : (rngD ((a.parts.length : Nat) : Int).toNat).length = a.parts.length := by unfold rngD; simp
    rw [e, List.take_length] at hall
    rw [e0, List.all_eq_true.mpr hall]
    rfl
theorem dTab_dK {t : List (Str × Act)} : (∃ kvs, Dt.dK (kTab K t) = .dK kvs) ∨ ∃ kvs, Dt.dK (kTab K t) = .dT kvs := .inl ⟨_, rfl⟩
theorem lkd_tab {t : List (Str × Act)} : ∀ H0 u, RepO H0 (.dK (kTab K t)) u → Lkd (!t.isEmpty) u := fun H0 u r => by
  obtain ⟨ws, rfl, h⟩ := r
  refine ⟨.inl ⟨ws, rfl⟩, fun e => ⟨ws, rfl, ?_⟩⟩
  cases t with
  | nil => cases e
  | cons p t =>
    unfold kTab at h
    rw [List.map_cons] at h
    unfold RepK at h
    obtain ⟨x, r, rfl, h1, _⟩ := h
    unfold dAct Rep at h1
    obtain ⟨a, _, _, rfl, _⟩ := h1
    exact ⟨_, a, List.mem_cons_self⟩
theorem noflat_tab {L : Lk} {t : List (Str × Act)} {a : Addr} {od : Obj} {p : Str × Act} (hp : p ∈ t) (h : NoFlat L) : NoFlat (lset L a (od, !t.isEmpty)) := by
  cases t with
  | nil => simp at hp
  | cons q t => exact noflat_set h
theorem keys_tab (t : List (Str × Act)) : keysD (.dK (kTab K t)) = t.map fun p => Dt.s p.1 := by
  show (kTab K t).map (fun kv => Dt.s kv.1) = _
  unfold kTab
  rw [List.map_map]
  rfl
theorem ok_possible (T : Tx K mg) (D : Md K (cl K "World") "possible" "World.possible" s_World_possible) (mSt : Met P w K mg base 2 (cl K "World") "state_of" (S_state_of K).sp []) (mF : Met P w K mg base 9 (cl K "World") "fits" (S_fits K).sp []) : Met P w K mg base 10 (cl K "World") "possible" (S_possible K).sp [] := by
  refine met_sym T.cWd D sc_World_possible (fun _ _ _ _ _ _ us hl => match us, hl with | [_, _], _ => rfl) (fun a ds L M h => by obtain ⟨rfl, _⟩ := h; rfl) (fun f cdv A outer s H E hr => ⟨_, pss_cons (ps_set (i := 1) sc_World_possible.nd rfl (Or.inr rfl) (pe_mt mSt hr (by omega) (pv 0) (pa_cons (pv 1) pa_nil))) (pss_one (ps_ret (pe_lock (pe_lc (own := [("name", 2)]) rfl sc_World_possible.nd (pi_keys (pe_fld (pv 0) rfl)) (blkOk_by (own := [("name", 2)]) (N := ["self", "state", "name"]) (sc := defScope s_World_possible) (by decide +kernel)) (fun _ _ _ _ _ => (pg_name (i := 2) sc_World_possible.nd rfl (Or.inl rfl))) (fun _ _ _ _ _ => (pts_one (pt_val (pe_mt mF hr (by omega) (pv 0) (pa_cons (pv 1) (pa_cons (pv 2) pa_nil)))))) (fun _ _ _ _ _ => (pv 2)))))), fun (v, st) ds L M h => ?_⟩)
  obtain ⟨rfl, hw, hs, hL⟩ := h
  have hw : WdOk v := hw
  have hl := hw.len
  walk_at "sy"
  refine ⟨(v, st), ⟨⟨_, _, rfl, rfl⟩, hw.nms, hs⟩, ?_⟩
  rintro d M2 ⟨rfl, rfl⟩
  walk_at "sy"
  refine e_lockM (α := Str × Act) (src := v.table) (f := fun p => .s p.1) (yes := fun p => fitsA v st p.2) (val := fun p => .s p.1) (!v.table.isEmpty) (wo_name (by decide)) dTab_dK (loc_fld (i := 0) rfl rfl T.cWd T.n_table rfl dTab_dK) (unl0 hL) lkd_tab (keys_tab v.table) (by omega) (fun L' a od e1 e2 p hp => ?_) ?_
  · subst e1
    intro M' l
    walk_at "sy"
    refine ⟨rfl, ?_⟩
    walk_at "sy"
    refine ⟨(v, st, p.1, p.2), ⟨rfl, hw, tget_at hw.nd hp, noflat_tab hp (noflat0 hL)⟩, ?_⟩
    rintro d M2 ⟨rfl, rfl⟩
    refine ⟨_, rfl, rfl, rfl, fun _ => ?_⟩
    walk_at "sy"
    exact ⟨rfl, rfl⟩
  · refine ⟨rfl, ?_⟩
    show Dt.lst _ = Dt.lst (dStrs _)
    unfold dStrs
    rw [List.map_map]
    rfl
theorem ok_checked (T : Tx K mg) (D : Md K (cl K "World") "checked" "World.checked" s_World_checked) (mSt : Met P w K mg base 2 (cl K "World") "state_of" (S_state_of K).sp []) (mF : Met P w K mg base 9 (cl K "World") "fits" (S_fits K).sp []) : Met P w K mg base 10 (cl K "World") "checked" (S_checked K).sp [] := by
  refine met_sym T.cWd D sc_World_checked (fun _ _ _ _ _ _ us hl => match us, hl with | [_, _, _], _ => rfl) (fun a ds L M h => by obtain ⟨rfl, _⟩ := h; rfl) (fun f cdv A outer s H E hr => ⟨_, pss_cons (ps_set (i := 1) sc_World_checked.nd rfl (Or.inl rfl) (pe_mt mSt hr (by omega) (pv 0) (pa_cons (pv 1) pa_nil))) (pss_cons (ps_if (pt_cmp (pc_dnotin (hu_of hr) (pv 2) (pe_fld (pv 0) rfl)) rfl) (pss_one ps_never) pss_nil) (pss_cons (ps_if (pt_not (pt_val (pe_mt mF hr (by omega) (pv 0) (pa_cons (pv 1) (pa_cons (pv 2) pa_nil))))) (pss_one ps_never) pss_nil) (pss_one (ps_ret (pv 1))))), fun (v, st, n, a) ds L M h => ?_⟩)
  obtain ⟨rfl, hw, ha, hL, hs, hf⟩ := h
  have ha : tget v.table n = some a := ha
  walk_at "sy"
  refine ⟨(v, st), ⟨⟨_, _, rfl, rfl⟩, hw.nms, hs⟩, ?_⟩
  rintro d M2 ⟨rfl, rfl⟩
  walk_at "sy"
  refine ⟨_, _, _, rfl, T.cWd, T.n_table, rfl, ?_⟩
  refine .inl ⟨_, _, rfl, rfl, _, rfl, iF ?_ ?_⟩
  · rw [kTab_look]
    show (!((tget v.table n).map (dAct K)).isSome) = false
    rw [ha]
    rfl
  walk_at "sy"
  refine ⟨(v, st, n, a), ⟨rfl, hw, ha, hL⟩, ?_⟩
  rintro d M2 ⟨rfl, rfl⟩
  refine ⟨_, rfl, iF (by rw [show fitsA v st a = true from hf]; rfl) ?_⟩
  walk_at "sy"
  exact ⟨rfl, rfl⟩
theorem held_some : ∀ c : Ch, c ≠ .take → decide (c = .tru ∨ c = .add) = (decide (gV (some c) = .bl true) || decide (some c = some Ch.add)) := by
  intro c _
  cases c <;> decide +kernel
theorem ok_behind (T : Tx K mg) (D : Md K (cl K "World") "behind" "World.behind" s_World_behind) (mS : Met P w K mg base 1 (cl K "World") "seen" (S_seen K).sp []) (dG : Dun P w K mg base 1 (cl K "Outcome") "__getitem__" (S_Oget K).sp) : Met P w K mg base 4 (cl K "World") "behind" (S_behind K).sp [] := by
  refine met_sym T.cWd D sc_World_behind (fun _ _ _ _ _ _ us hl => match us, hl with | [_, _, _, _], _ => rfl) (fun a ds L M h => by obtain ⟨⟨x, t, rfl, _⟩, _⟩ := h; rfl) (fun f cdv A outer s H E hr => ⟨_, pss_cons (ps_set (i := 4) sc_World_behind.nd rfl (Or.inl rfl) (pe_lst pa_nil)) (pss_cons (ps_for PassesOwn.never rfl (pi_list (pe_mt0 mS hr (by omega) (pv 0))) (pg_name (i := 5) sc_World_behind.nd rfl (Or.inl rfl)) (pss_cons (ps_set (i := 6) sc_World_behind.nd rfl (Or.inl rfl) (pe_ixO (pv 2) (pv 5) dG hr (by omega))) (pss_cons (ps_set (i := 7) sc_World_behind.nd rfl (Or.inl rfl) (pe_cmpR op_in_seq (pv 5) (pv 1) rfl)) (pss_cons (ps_if (pt_cmpR op_eq (pv 6) pe_str (nomark _)) (pss_one (ps_set (i := 7) sc_World_behind.nd rfl (Or.inl rfl) (pe_cmpR op_notIn_seq (pv 5) (pv 3) rfl))) (pss_one (ps_if (pt_cmp (pc_notN (pv 6)) rfl) (pss_one (ps_set (i := 7) sc_World_behind.nd rfl (Or.inl rfl) (pe_or (pe_cmpR op_isB3 (pv 6) pe_bl (nomark _)) (pe_one (pe_cmpR op_eq (pv 6) pe_str (nomark _)))))) pss_nil))) (pss_one (ps_if (pt_val (pv 7)) (pss_one (ps_expr (pe_bm PySem.F.plainAttrs_list PySem.F.slot_list_append PySem.F.type_list_append mt_append (pv 4) (pa_cons (pv 5) pa_nil)))) pss_nil)))))) (pss_one (ps_ret (pe_callTy call_tuple_of (by rfl) T.f_tuple (by decide +kernel) (pa_cons (pv 4) pa_nil))))), fun (v, st, o, g) ds L M h => ?_⟩)
  obtain ⟨⟨x, t, rfl, hv⟩, hw⟩ := h
  have hv : vw M x = dWdT K v t := hv
  have hl := len_sub hw
  have hsl : v.seen.length ≤ 8 := by
    have : v.facts.length + v.piles.length + v.reserves.length ≤ 8 := hl
    unfold Wd.seen
    rw [List.length_append]
    omega
  walk_at "sy"
  refine e_lstO ?_
  walk_at "sy"
  refine ⟨by simp, fun a ha => ?_⟩
  walk_at "sy"
  have hv2 := vw_le (Le.new (d := .lst []) ha) hv (fun b e => nomatch e)
  refine ⟨_, hv2, rfl, ?_⟩
  walk_at "sy"
  refine ⟨v, ⟨⟨x, t, rfl, hv2⟩, hw⟩, ?_⟩
  rintro d M2 ⟨rfl, rfl⟩
  refine ⟨_, rfl, ?_⟩
  refine ⟨fun i Γ' M' => (∃ u5 u6 u7, Γ' = [some x, some (.tup (dStrs st)), some (dOut K o), some (.tup (dStrs g)), some (.adr a), u5, u6, u7]) ∧ M' = mset M a (.lst (dStrs ((v.seen.take i).filter (heldA o st g)))), ⟨⟨none, none, none, rfl⟩, rfl⟩, ?_, ?_⟩
  · rintro i d Γ' M' hd ⟨⟨u5, u6, u7, rfl⟩, rfl⟩
    obtain ⟨z, hz, rfl⟩ := dStrs_at hd
    have hi := (List.getElem?_eq_some_iff.mp hz).1
    walk_at "sy"
    refine o_ixOwn ⟨_, rfl⟩ ⟨(o, z), ⟨rfl, True.intro⟩, ?_⟩
    rintro d M2 ⟨rfl, rfl⟩
    walk_at "sy"
    refine o_inS (.inr rfl) ?_
    refine g_name ?_
    refine r_seqI (fun Γ' M' => (Γ' = [some x, some (.tup (dStrs st)), some (dOut K o), some (.tup (dStrs g)), some (.adr a), some (.s z), some (gD (o.get z)), some (.b (heldA o st g z))]) ∧ M' = mset M a (.lst (dStrs ((v.seen.take i).filter (heldA o st g))))) ?_ ?_
    · walk_at "sy"
      refine o_isCh .take (.inr (.inl rfl)) ⟨_, rfl, iB (fun e => ?_) (fun e => ?_)⟩
      · have e : o.get z = some .take := of_decide_eq_true e
        walk_at "sy"
        refine o_inS (.inr rfl) ?_
        walk_at "sy"
        refine ⟨?_, rfl⟩
        have h2 : heldA o st g z = !decide (z ∈ g) := by unfold heldA; rw [e]
        rw [h2]
        rfl
      · have e : o.get z ≠ some .take := of_decide_eq_false e
        walk_at "sy"
        have hcase : ∀ og : Option Ch, o.get z = og → og ≠ some .take → (gD og = .non ∧ heldA o st g z = decide (z ∈ st)) ∨ (gD og ≠ .non ∧ heldA o st g z = (decide (gV og = .bl true) || decide (og = some .add))) := by
          intro og h1 h2
          cases og with
          | none =>
            left
            exact ⟨rfl, by unfold heldA; rw [h1]⟩
          | some c =>
            right
            cases c with
            | take => exact absurd rfl h2
            | _ => exact ⟨(fun e => nomatch e), by unfold heldA; rw [h1]; exact held_some _ (by decide)⟩
        rcases hcase _ rfl e with ⟨h1, h2⟩ | ⟨h1, h2⟩
        · refine ⟨fun _ => ⟨_, rfl, iF rfl ?_⟩, fun e => absurd h1 e⟩
          walk_at "sy"
          refine ⟨?_, rfl⟩
          rw [h2]
          rfl
        · refine ⟨fun e => absurd e h1, fun _ => ⟨_, rfl, iT rfl ?_⟩⟩
          walk_at "sy"
          refine o_isB (gfv (o.get z)) (by cases o.get z with | none => rfl | some c => cases c <;> rfl) ⟨_, rfl, iB (fun e1 => ?_) (fun e1 => ?_)⟩
          · walk_at "sy"
            refine ⟨?_, rfl⟩
            rw [h2, show decide (gV (o.get z) = V.bl true) = true from e1]
            rfl
          · walk_at "sy"
            refine o_isCh .add (.inl rfl) ?_
            walk_at "sy"
            refine ⟨?_, rfl⟩
            rw [h2, show decide (gV (o.get z) = V.bl true) = false from e1]
            rfl
    · rintro Γ' M' ⟨rfl, rfl⟩
      walk_at "sy"
      refine iB (fun e => ?_) (fun e => ?_)
      · walk_at "sy"
        refine ⟨_, vw_adr mset_same, ?_⟩
        walk_at "sy"
        refine m_app mset_same ?_ ?_
        · have := List.length_filter_le (heldA o st g) (v.seen.take i)
          rw [List.length_take] at this
          simp only [dStrs, List.length_map]
          omega
        · refine ⟨⟨_, _, _, rfl⟩, ?_⟩
          rw [mset_mset, take_one hz, List.filter_append]
          simp [dStrs, e]
      · walk_at "sy"
        refine ⟨⟨_, _, _, rfl⟩, ?_⟩
        rw [take_one hz, List.filter_append]
        simp [e]
  · rintro Γ' M' ⟨⟨u5, u6, u7, rfl⟩, rfl⟩
    refine Run.post ?_
    walk_at "sy"
    refine c_tuple (.inl (vw_adr mset_same)) ?_
    have e : (dStrs v.seen).length = v.seen.length := by simp [dStrs]
    rw [e, List.take_length]
    refine ⟨_, M, (VwM.less (Le.new ha)).val, rfl, rfl⟩
theorem ok_results (T : Tx K mg) (D : Md K (cl K "World") "results" "World.results" s_World_results) (mCh : Met P w K mg base 10 (cl K "World") "checked" (S_checked K).sp []) (dL : Dun P w K mg base 1 (cl K "Action") "__len__" (S_Alen K).sp) (mO : Met P w K mg base 6 (cl K "Action") "outcome" (S_Aout K).sp []) (dG : Dun P w K mg base 1 (cl K "Outcome") "__getitem__" (S_Oget K).sp)
    (cSub : Cal P w K mg base 6 "sub_tuples" (S_sub 5).sp []) (mB : Met P w K mg base 4 (cl K "World") "behind" (S_behind K).sp []) : Met P w K mg base 11 (cl K "World") "results" (S_results K).sp [] := by
  refine met_sym T.cWd D sc_World_results (fun _ _ _ _ _ _ us hl => match us, hl with | [_, _, _], _ => rfl) (fun a ds L M h => by obtain ⟨rfl, _⟩ := h; rfl) (fun f cdv A outer s H E hr => ⟨_, pss_cons (ps_set (i := 1) sc_World_results.nd rfl (Or.inl rfl) (pe_mt mCh hr (by omega) (pv 0) (pa_cons (pv 1) (pa_cons (pv 2) pa_nil)))) (pss_cons (ps_set (i := 3) sc_World_results.nd rfl (Or.inl rfl) (pe_lst pa_nil)) (pss_cons (ps_for PassesOwn.never rfl (pi_range1 (by rfl) T.f_range (pa_cons (pe_callB (cr_lenO dL hr (by omega)) (by rfl) T.f_len (by decide +kernel) (pa_cons (pe_dget (hu_of hr) (pe_fld (pv 0) rfl) (pv 2) (fun _ _ => rfl)) pa_nil)) pa_nil)) (pg_name (i := 4) sc_World_results.nd rfl (Or.inl rfl)) (pss_cons (ps_set (i := 5) sc_World_results.nd rfl (Or.inr rfl) (pe_mt mO hr (by omega) (pe_dget (hu_of hr) (pe_fld (pv 0) rfl) (pv 2) (fun _ _ => rfl)) (pa_cons (pv 4) pa_nil))) (pss_one (ps_for PassesOwn.never rfl (pi_list (pe_c cSub hr (by omega) rfl (pa_cons (pe_lc (own := [("pile", 7)]) rfl sc_World_results.nd (pi_list (pe_fld (pv 0) rfl)) (blkOk_by (own := [("pile", 7)]) (N := ["self", "state", "action", "found", "index", "outcome", "gone", "pile"]) (sc := defScope s_World_results) (by decide +kernel)) (fun _ _ _ _ _ => (pg_name (i := 7) sc_World_results.nd rfl (Or.inl rfl))) (fun _ _ _ _ _ => (pts_one (pt_cmpR op_eq (pe_ixO (pv 5) (pv 7) dG hr (by omega)) pe_str (nomark _)))) (fun _ _ _ _ _ => (pv 7))) pa_nil))) (pg_name (i := 6) sc_World_results.nd rfl (Or.inl rfl)) (pss_one (ps_expr (pe_bm PySem.F.plainAttrs_list PySem.F.slot_list_append PySem.F.type_list_append mt_append (pv 3) (pa_cons (pe_tup (pa_cons (pv 4) (pa_cons (pv 6) (pa_cons (pe_mt mB hr (by omega) (pv 0) (pa_cons (pv 1) (pa_cons (pv 5) (pa_cons (pv 6) pa_nil)))) pa_nil)))) pa_nil)))))))) (pss_one (ps_ret (pv 3))))), fun (v, st, n, a) ds L M h => ?_⟩)
  obtain ⟨rfl, hw, ha, hL, hs, hf⟩ := h
  have hw : WdOk v := hw
  have ha : tget v.table n = some a := ha
  have hA : ActIn v a := hw.act _ (tget_mem ha)
  have hp : a.parts.length ≤ 16 := hA.ok.len
  have hl : v.facts.length + v.piles.length + v.reserves.length ≤ 8 := len_sub hw.nms
  have hlk : lookA (kTab K v.table) n = some (dAct K a) := by rw [kTab_look, ha]; rfl
  have hpok : ∀ z ∈ v.piles, PyData.strOk z = true := fun z hz => str_ok (hw.nms.nm z (List.mem_append_left _ (List.mem_append_right _ hz)))
  walk_at "sy"
  refine ⟨(v, st, n, a), ⟨rfl, hw, ha, hL, hs, hf⟩, ?_⟩
  rintro d M2 ⟨rfl, rfl⟩
  walk_at "sy"
  refine e_lstO ?_
  walk_at "sy"
  refine ⟨by simp, fun fo hfo => ?_⟩
  walk_at "sy"
  refine ⟨_, _, _, rfl, T.cWd, T.n_table, rfl, ?_⟩
  walk_at "sy"
  refine .inl ⟨_, _, rfl, rfl, _, hlk, ?_⟩
  walk_at "sy"
  refine c_lenOwn ⟨_, rfl⟩ ⟨a, ⟨rfl, True.intro⟩, ?_⟩
  rintro d M2 ⟨rfl, rfl⟩
  refine ⟨_, rfl, by omega, ?_⟩
  walk_at "sy"
  refine ⟨by omega, by omega, ?_⟩
  refine ⟨fun i Γ' M' => (∃ u4 u5 u6 u7, Γ' = [some (dWd K v), some (.tup (dStrs st)), some (.s n), some (.adr fo), u4, u5, u6, u7]) ∧ M' = mset M fo (.lst (((List.range i).flatMap fun k => resO v st (a.parts.getD k []) k).map dRes)), ⟨⟨none, none, none, none, rfl⟩, rfl⟩, ?_, ?_⟩
  · rintro i d Γ' M' hd ⟨⟨u4, u5, u6, u7, rfl⟩, rfl⟩
    obtain ⟨k, hk, rfl⟩ := at_map hd
    have hk1 := (List.getElem?_eq_some_iff.mp hk).2
    have hk0 := (List.getElem?_eq_some_iff.mp hk).1
    rw [List.getElem_range] at hk1
    subst hk1
    have hk : i < a.parts.length := by simpa using hk0
    have ho : a.parts[i]? = some a.parts[i] := List.getElem?_eq_getElem hk
    have hgd : a.parts.getD i [] = a.parts[i] := by rw [List.getD_eq_getElem?_getD, ho]; rfl
    generalize hoq : a.parts[i] = o at ho hgd
    have hres : ∀ k, k ≤ i → ((List.range k).flatMap fun k => resO v st (a.parts.getD k []) k).length ≤ k * 500 := by
      intro k
      induction k with
      | zero => intro _; simp
      | succ k ih =>
        intro hki
        rw [List.range_succ, List.flatMap_append, List.length_append]
        have h1 := ih (by omega)
        have h2 : ∀ o k, (resO v st o k).length ≤ 500 := by
          intro o k
          unfold resO
          rw [List.length_map]
          have h3 := subT_len (takes v o)
          have h4 : (takes v o).length ≤ v.piles.length := List.length_filter_le _ _
          have h5 := hw.nms.pl
          have h6 : 3 ^ (takes v o).length ≤ 3 ^ 2 := Nat.pow_le_pow_right (by decide) (by omega)
          omega
        simp only [List.flatMap_cons, List.flatMap_nil, List.append_nil]
        have := h2 (a.parts.getD k []) k
        omega
    have hres := hres i (Nat.le_refl _)
    have hsub := subT_len (takes v o)
    have htk : (takes v o).length ≤ 4 := Nat.le_trans (Nat.le_trans (List.length_filter_le _ _) hw.nms.pl) (by decide)
    have h6 : 3 ^ (takes v o).length ≤ 3 ^ 4 := Nat.pow_le_pow_right (by decide) htk
    walk_at "sy"
    refine ⟨_, _, _, rfl, T.cWd, T.n_table, rfl, ?_⟩
    walk_at "sy"
    refine .inl ⟨_, _, rfl, rfl, _, hlk, ?_⟩
    walk_at "sy"
    refine ⟨(a, i), ⟨rfl, hA.ok, hL, hk⟩, ?_⟩
    rintro d M2 ⟨rfl, o', ho', rfl⟩
    have ho' : a.parts[i]? = some o' := ho'
    rw [ho] at ho'
    cases ho'
    walk_at "sy"
    refine e_lcM (α := Str) (wo_name (by decide)) ?_
    walk_at "sy"
    refine ⟨_, _, _, rfl, T.cWd, T.n_piles, rfl, ?_⟩
    refine ⟨_, rfl, ?_⟩
    refine ⟨v.piles, Dt.s, fun p => decide (o.get p = some .take), Dt.s, rfl, by omega, fun p hp => ?_, ?_⟩
    · intro M' l
      walk_at "sy"
      refine ⟨rfl, ?_⟩
      walk_at "sy"
      refine o_ixOwn ⟨_, rfl⟩ ⟨(o, p), ⟨rfl, True.intro⟩, ?_⟩
      rintro d M2 ⟨rfl, rfl⟩
      walk_at "sy"
      refine o_isCh .take (.inr (.inl rfl)) ⟨_, rfl, rfl, rfl, fun _ => ?_⟩
      walk_at "sy"
      exact ⟨rfl, rfl⟩
    walk_at "sy"
    refine ⟨takes v o, ⟨rfl, by show (takes v o).length ≤ 5; omega, fun z hz => hpok z (List.mem_filter.mp hz).1⟩, ?_⟩
    rintro d M2 ⟨rfl, rfl⟩
    refine ⟨_, rfl, ?_⟩
    refine ⟨fun j Γ' M' => (∃ u6 u7, Γ' = [some (dWd K v), some (.tup (dStrs st)), some (.s n), some (.adr fo), some (.i (i : Nat)), some (dOut K o), u6, u7]) ∧ M' = mset M fo (.lst (((List.range i).flatMap (fun k => resO v st (a.parts.getD k []) k) ++ (resO v st o i).take j).map dRes)), ⟨⟨_, _, rfl⟩, by simp⟩, ?_, ?_⟩
    · rintro j d Γ' M' hd ⟨⟨u6, u7, rfl⟩, rfl⟩
      obtain ⟨g, hg, rfl⟩ := at_map hd
      have hj := (List.getElem?_eq_some_iff.mp hg).1
      walk_at "sy"
      refine ⟨_, vw_adr mset_same, ?_⟩
      walk_at "sy"
      refine ⟨(v, st, o, g), ⟨⟨_, _, rfl, rfl⟩, hw.nms⟩, ?_⟩
      rintro d M2 ⟨rfl, rfl⟩
      walk_at "sy"
      refine ⟨by simp, ?_⟩
      walk_at "sy"
      refine m_app mset_same ?_ ?_
      · rw [List.length_map, List.length_append, List.length_take]
        unfold resO at *
        rw [List.length_map]
        omega
      · refine ⟨⟨_, _, rfl⟩, ?_⟩
        have hgr : (resO v st o i)[j]? = some (i, g, behindA v st o g) := by
          unfold resO
          rw [List.getElem?_map, hg]
          rfl
        rw [mset_mset, take_one hgr]
        simp only [List.map_append, List.append_assoc]
        rfl
    · rintro Γ' M' ⟨⟨u6, u7, rfl⟩, rfl⟩
      refine ⟨⟨_, _, _, _, rfl⟩, ?_⟩
      have e : (dSts (subT (takes v o))).length = (resO v st o i).length := by simp [dSts, resO]
      rw [e, List.take_length, List.range_succ, List.flatMap_append]
      simp only [List.flatMap_cons, List.flatMap_nil, List.append_nil]
      rw [hgd]
  · rintro Γ' M' ⟨⟨u4, u5, u6, u7, rfl⟩, rfl⟩
    refine r_ret (e_frz ?_)
    walk_at "sy"
    refine ⟨_, _, rfl, mset_same, (mdel_mset hfo).symm, ?_⟩
    have e : (rngD ((a.parts.length : Nat) : Int).toNat).length = a.parts.length := by unfold rngD; simp
    rw [e]
    rfl
theorem ok_shifts (T : Tx K mg) (D : Md K (cl K "World") "shifts" "World.shifts" s_World_shifts) (mCh : Met P w K mg base 10 (cl K "World") "checked" (S_checked K).sp []) (dL : Dun P w K mg base 1 (cl K "Action") "__len__" (S_Alen K).sp) (mO : Met P w K mg base 6 (cl K "Action") "outcome" (S_Aout K).sp []) (dG : Dun P w K mg base 1 (cl K "Outcome") "__getitem__" (S_Oget K).sp)
    (mC : Met P w K mg base 1 (cl K "World") "counters" (S_counters K).sp []) : Met P w K mg base 11 (cl K "World") "shifts" (S_shifts K).sp [] := by
  refine met_sym T.cWd D sc_World_shifts (fun _ _ _ _ _ _ us hl => match us, hl with | [_, _, _, _], _ => rfl) (fun a ds L M h => by obtain ⟨rfl, _⟩ := h; rfl) (fun f cdv A outer s H E hr => ⟨_, pss_cons (ps_set (i := 1) sc_World_shifts.nd rfl (Or.inl rfl) (pe_mt mCh hr (by omega) (pv 0) (pa_cons (pv 1) (pa_cons (pv 2) pa_nil)))) (pss_cons (ps_if (pt_not (pt_chain op_le op_lt pe_int (pv 3) (pe_callB (cr_lenO dL hr (by omega)) (by rfl) T.f_len (by decide +kernel) (pa_cons (pe_dget (hu_of hr) (pe_fld (pv 0) rfl) (pv 2) (fun _ _ => rfl)) pa_nil)))) (pss_one ps_never) pss_nil) (pss_cons (ps_set (i := 4) sc_World_shifts.nd rfl (Or.inr rfl) (pe_mt mO hr (by omega) (pe_dget (hu_of hr) (pe_fld (pv 0) rfl) (pv 2) (fun _ _ => rfl)) (pa_cons (pv 3) pa_nil))) (pss_cons (ps_set (i := 5) sc_World_shifts.nd rfl (Or.inl rfl) (pe_lst pa_nil)) (pss_cons (ps_for PassesOwn.never rfl (pi_list (pe_mt0 mC hr (by omega) (pv 0))) (pg_name (i := 6) sc_World_shifts.nd rfl (Or.inl rfl)) (pss_one (ps_if (PW.pt (pw_or (pt_cmpR op_eq (pe_ixO (pv 4) (pv 6) dG hr (by omega)) pe_str (nomark _)) (pw_or1 (PW.pt (pw_and (pt_cmpR op_eq (pe_ixO (pv 4) (pv 6) dG hr (by omega)) pe_str (nomark _)) (pw_and1 (pt_cmpR op_in_seq (pv 6) (pv 1) rfl))))))) (pss_one (ps_expr (pe_bm PySem.F.plainAttrs_list PySem.F.slot_list_append PySem.F.type_list_append mt_append (pv 5) (pa_cons (pv 6) pa_nil)))) pss_nil))) (pss_one (ps_ret (pe_tup (pa_cons (pe_callTy call_tuple_of (by rfl) T.f_tuple (by decide +kernel) (pa_cons (pv 5) pa_nil)) (pa_cons (pe_callTy call_tuple_of (by rfl) T.f_tuple (by decide +kernel) (pa_cons (pe_lc (own := [("name", 6)]) rfl sc_World_shifts.nd (pi_list (pe_mt0 mC hr (by omega) (pv 0))) (blkOk_by (own := [("name", 6)]) (N := ["self", "state", "action", "index", "outcome", "taken", "name"]) (sc := defScope s_World_shifts) (by decide +kernel)) (fun _ _ _ _ _ => (pg_name (i := 6) sc_World_shifts.nd rfl (Or.inl rfl))) (fun _ _ _ _ _ => (pts_one (pt_cmpR op_eq (pe_ixO (pv 4) (pv 6) dG hr (by omega)) pe_str (nomark _)))) (fun _ _ _ _ _ => (pv 6))) pa_nil)) pa_nil))))))))), fun (v, st, n, a, k, o) ds L M h => ?_⟩)
  obtain ⟨rfl, hw, ha, hL, hs, hf, ho⟩ := h
  have hw : WdOk v := hw
  have ha : tget v.table n = some a := ha
  have ho : a.parts[k]? = some o := ho
  have hk := (List.getElem?_eq_some_iff.mp ho).1
  have hA : ActIn v a := hw.act _ (tget_mem ha)
  have hp : a.parts.length ≤ 16 := hA.ok.len
  have hl : v.facts.length + v.piles.length + v.reserves.length ≤ 8 := len_sub hw.nms
  have hcl : v.counters.length ≤ 8 := by unfold Wd.counters; rw [List.length_append]; omega
  have hlk : lookA (kTab K v.table) n = some (dAct K a) := by rw [kTab_look, ha]; rfl
  walk_at "sy"
  refine ⟨(v, st, n, a), ⟨rfl, hw, ha, hL, hs, hf⟩, ?_⟩
  rintro d M2 ⟨rfl, rfl⟩
  walk_at "sy"
  refine iT (decide_eq_true (Int.natCast_nonneg _)) ?_
  walk_at "sy"
  refine ⟨_, _, _, rfl, T.cWd, T.n_table, rfl, ?_⟩
  walk_at "sy"
  refine .inl ⟨_, _, rfl, rfl, _, hlk, ?_⟩
  walk_at "sy"
  refine c_lenOwn ⟨_, rfl⟩ ⟨a, ⟨rfl, True.intro⟩, ?_⟩
  rintro d M2 ⟨rfl, rfl⟩
  refine ⟨_, rfl, by omega, ?_⟩
  walk_at "sy"
  refine iF (by simp only [Bool.not_eq_false', decide_eq_true_eq]; show ((k : Nat) : Int) < _; omega) ?_
  walk_at "sy"
  refine ⟨_, _, _, rfl, T.cWd, T.n_table, rfl, ?_⟩
  walk_at "sy"
  refine .inl ⟨_, _, rfl, rfl, _, hlk, ?_⟩
  walk_at "sy"
  refine ⟨(a, k), ⟨rfl, hA.ok, hL, hk⟩, ?_⟩
  rintro d M2 ⟨rfl, o', ho', rfl⟩
  have ho' : a.parts[k]? = some o' := ho'
  rw [ho] at ho'
  cases ho'
  walk_at "sy"
  refine e_lstO ?_
  walk_at "sy"
  refine ⟨by simp, fun b hb => ?_⟩
  walk_at "sy"
  refine ⟨v, ⟨⟨_, _, rfl, rfl⟩, hw.nms⟩, ?_⟩
  rintro d M2 ⟨rfl, rfl⟩
  refine ⟨_, rfl, ?_⟩
  refine ⟨fun i Γ' M' => (∃ u6, Γ' = [some (dWd K v), some (.tup (dStrs st)), some (.s n), some (.i (k : Nat)), some (dOut K o), some (.adr b), u6]) ∧ M' = mset M b (.lst (dStrs ((v.counters.take i).filter (takenA o st)))), ⟨⟨none, rfl⟩, rfl⟩, ?_, ?_⟩
  · rintro i d Γ' M' hd ⟨⟨u6, rfl⟩, rfl⟩
    obtain ⟨z, hz, rfl⟩ := dStrs_at hd
    have yes : ∀ M1, takenA o st z = true → M1 = mset M b (.lst (dStrs ((v.counters.take i).filter (takenA o st)))) → (mset M1 b (.lst (dStrs ((v.counters.take i).filter (takenA o st)) ++ [.s z]))) = mset M b (.lst (dStrs ((v.counters.take (i + 1)).filter (takenA o st)))) := by
      rintro _ e rfl
      rw [mset_mset, take_one hz, List.filter_append]
      simp [dStrs, e]
    have no : takenA o st z = false → (v.counters.take (i + 1)).filter (takenA o st) = (v.counters.take i).filter (takenA o st) := by
      intro e
      rw [take_one hz, List.filter_append]
      simp [e]
    have hlf : (dStrs ((v.counters.take i).filter (takenA o st))).length ≤ 100000 := by
      have := List.length_filter_le (takenA o st) (v.counters.take i)
      rw [List.length_take] at this
      simp only [dStrs, List.length_map]
      omega
    walk_at "sy"
    refine o_ixOwn ⟨_, rfl⟩ ⟨(o, z), ⟨rfl, True.intro⟩, ?_⟩
    rintro d M2 ⟨rfl, rfl⟩
    walk_at "sy"
    refine o_isCh .take (.inr (.inl rfl)) ⟨_, rfl, iB (fun e => iT rfl ?_) (fun e => ?_)⟩
    · have e : decide (o.get z = some .take) = true := e
      walk_at "sy"
      refine ⟨_, vw_adr mset_same, ?_⟩
      walk_at "sy"
      refine m_app mset_same hlf ⟨⟨_, rfl⟩, yes _ ?_ rfl⟩
      unfold takenA
      rw [e]
      rfl
    · have e : decide (o.get z = some .take) = false := e
      walk_at "sy"
      refine o_ixOwn ⟨_, rfl⟩ ⟨(o, z), ⟨rfl, True.intro⟩, ?_⟩
      rintro d M2 ⟨rfl, rfl⟩
      walk_at "sy"
      refine o_isCh .emp (.inr (.inr rfl)) ⟨_, rfl, iB (fun e2 => ?_) (fun e2 => iF rfl ?_)⟩
      · have e2 : decide (o.get z = some .emp) = true := e2
        walk_at "sy"
        refine o_inS (.inr rfl) ⟨_, rfl, iB (fun e3 => ?_) (fun e3 => ?_)⟩
        · simp only [Bool.false_eq_true, if_false] at e3
          walk_at "sy"
          refine ⟨_, vw_adr mset_same, ?_⟩
          walk_at "sy"
          refine m_app mset_same hlf ⟨⟨_, rfl⟩, yes _ ?_ rfl⟩
          unfold takenA
          rw [e2, show decide (z ∈ st) = true from e3]
          simp
        · simp only [Bool.false_eq_true, if_false] at e3
          walk_at "sy"
          refine ⟨⟨_, rfl⟩, ?_⟩
          rw [no]
          unfold takenA
          rw [e, e2, show decide (z ∈ st) = false from e3]
          rfl
      · have e2 : decide (o.get z = some .emp) = false := e2
        walk_at "sy"
        refine ⟨⟨_, rfl⟩, ?_⟩
        rw [no]
        unfold takenA
        rw [e, e2]
        rfl
  · rintro Γ' M' ⟨⟨u6, rfl⟩, rfl⟩
    have e : (dStrs v.counters).length = v.counters.length := by simp [dStrs]
    rw [e, List.take_length]
    refine Run.post ?_
    walk_at "sy"
    refine c_tuple (.inl (vw_adr mset_same)) ?_
    walk_at "sy"
    refine e_lcM (α := Str) (wo_name (by decide)) ?_
    walk_at "sy"
    refine ⟨v, ⟨⟨_, _, rfl, rfl⟩, hw.nms⟩, ?_⟩
    rintro d M2 ⟨rfl, rfl⟩
    refine ⟨_, rfl, ?_⟩
    refine ⟨v.counters, Dt.s, addedA o, Dt.s, rfl, by omega, fun z hz => ?_, ?_⟩
    · intro M' l
      walk_at "sy"
      refine ⟨rfl, ?_⟩
      walk_at "sy"
      refine o_ixOwn ⟨_, rfl⟩ ⟨(o, z), ⟨rfl, True.intro⟩, ?_⟩
      rintro d M2 ⟨rfl, rfl⟩
      walk_at "sy"
      refine o_isCh .add (.inl rfl) ⟨_, rfl, rfl, rfl, fun _ => ?_⟩
      walk_at "sy"
      exact ⟨rfl, rfl⟩
    · walk_at "sy"
      refine c_tuple (.inl rfl) ?_
      walk_at "sy"
      refine ⟨by simp, ?_⟩
      exact ⟨_, M, (VwM.less (Le.new hb)).val, rfl, rfl⟩
end
end K85
set_option maxRecDepth 100000
set_option maxHeartbeats 4000000
/-! worlds made, copied, joined -/
namespace K85
open PySem L2
open C8 (Cal Met Mak pe_c pe_mk pe_mt pe_mt0 pe_gc)
local macro_rules | `(tactic| walk_at "sy1") => `(tactic| with_reducible first
  | refine r_seq ?_ | refine r_if ?_ | refine r_ret ?_ | refine r_retN ?_ | refine r_asg ?_ | refine r_drop ?_ | refine r_brk ?_ | refine r_cont ?_ | refine r_fld ?_ | refine r_dput ?_ | refine r_for ?_ | refine r_next ?_
  | refine g_name ?_ | refine g_tup ?_ | refine g_unl ?_ | refine g_cons ?_ | refine g_nil ?_
  | refine t_test ?_ | refine t_B ?_ | refine t_not ?_ | refine t_and ?_ | refine t_or ?_ | refine t_yes ?_
  | refine e_var rfl ?_ | refine e_int ?_ | refine e_str ?_ | refine e_bl ?_ | refine e_non ?_ | refine e_ref ?_ | refine e_op ?_ | refine e_un ?_ | refine e_andV ?_ | refine e_orV ?_ | refine e_notV ?_ | refine e_if ?_ | refine e_isN ?_ | refine e_notN ?_
  | refine e_tup ?_ | refine e_fld ?_ | refine e_call0 ?_ | refine e_meth0 ?_ | refine e_cb ?_ | refine e_bm ?_ | refine e_dget ?_ | refine e_dget1 ?_ | refine e_din ?_ | refine e_dnotin ?_ | refine e_chain ?_ | refine e_fcall ?_ | refine e_sm ?_
  | refine a_nil ?_ | refine a_cons ?_ | refine i_list ?_ | refine i_tup ?_ | refine i_seq ?_ | refine i_rng1 ?_ | refine i_str ?_
  | refine s_none ?_ | refine s_some ?_ | refine e_slL ?_ | refine e_slT ?_
  | refine o_II ?_ | refine o_IB ?_)
local macro_rules | `(tactic| walk_at "sy") => `(tactic| repeat (first | walk_at "sy1" | refine ⟨_, rfl, ?_⟩ | refine ⟨(rfl : List.lookup _ _ = none), ?_⟩))
local macro_rules | `(tactic| walk_at "eqF") => `(tactic| (refine o_eq rfl rfl rfl ?_; walk_at "sy"; refine iF (by decide +kernel) ?_; walk_at "sy"))
local macro_rules | `(tactic| walk_at "eqT") => `(tactic| (refine o_eq rfl rfl rfl ?_; walk_at "sy"; refine iT (by decide +kernel) ?_; walk_at "sy"))
local macro_rules | `(tactic| walk_at "pureEnd") => `(tactic| (rintro d M' ⟨rfl, rfl⟩))
abbrev s_World___init__ : Stmt := inClass (top 31) 0
theorem sc_World___init__ : FnScope ["self", "facts", "piles", "reserves", "table", "name"] ["self", "facts", "piles", "reserves", "table"] (defScope s_World___init__) := ⟨rfl, rfl, rfl, by decide +kernel, rfl, by decide +kernel, by decide +kernel⟩
abbrev s_same_world : Stmt := top 30
theorem sc_same_world : FnScope ["world"] ["world"] (defScope s_same_world) := ⟨rfl, rfl, rfl, by decide +kernel, rfl, by decide +kernel, by decide +kernel⟩
abbrev s_World_copy : Stmt := inClass (top 31) 7
theorem sc_World_copy : FnScope ["self"] ["self"] (defScope s_World_copy) := ⟨rfl, rfl, rfl, by decide +kernel, rfl, by decide +kernel, by decide +kernel⟩
abbrev s_World___setitem__ : Stmt := inClass (top 31) 23
theorem sc_World___setitem__ : FnScope ["self", "name", "action"] ["self", "name", "action"] (defScope s_World___setitem__) := ⟨rfl, rfl, rfl, by decide +kernel, rfl, by decide +kernel, by decide +kernel⟩
abbrev s_World___or__ : Stmt := inClass (top 31) 27
theorem sc_World___or__ : FnScope ["self", "other", "name", "table"] ["self", "other"] (defScope s_World___or__) := ⟨rfl, rfl, rfl, by decide +kernel, rfl, by decide +kernel, by decide +kernel⟩
abbrev W3 := (Bool × List Str) × (Bool × List Str) × (Bool × List Str)
def W3.ok (n : W3) : Prop := (∀ x ∈ n.1.2 ++ n.2.1.2 ++ n.2.2.2, NameOk x) ∧ (n.1.2 ++ n.2.1.2 ++ n.2.2.2).Nodup ∧ (n.1.2 ++ n.2.1.2 ++ n.2.2.2).length ≤ 100
def W3.wd (n : W3) (t : List (Str × Act)) : Wd := ⟨n.1.2, n.2.1.2, n.2.2.2, t⟩
def tabD (K : PySem.W.Frag) : Option (List (Str × Act)) → Dt
  | some t => .dK (kTab K t)
  | none => .non
abbrev S_Winit (K : PySem.W.Frag) : FS := ⟨Addr × W3 × Option (List (Str × Act)), fun a ds L M => ds = [.adr a.1, dNm a.2.1.1.1 a.2.1.1.2, dNm a.2.1.2.1.1 a.2.1.2.1.2, dNm a.2.1.2.2.1 a.2.1.2.2.2, tabD K a.2.2] ∧ M a.1 = some (.ins (cl K "World") []) ∧ a.2.1.ok ∧ (∀ t, a.2.2 = some t → (t.map (·.1)).Nodup ∧ t.length ≤ 100) ∧ ∀ b, L b = none,
  fun a M d M' => d = .non ∧ ∃ t, t ≠ a.1 ∧ M t = none ∧ M' = mset (mset M a.1 (dWdT K (a.2.1.wd []) (.adr t))) t (.dK (kTab K (a.2.2.getD [])))⟩
section
variable {P : Program} {w : World} {K : PySem.W.Frag} {mg : Str → Option Value} {base : Heap}
theorem mset_comm {M : Mm} {a b : Addr} {d e : Dt} (h : a ≠ b) : mset (mset M a d) b e = mset (mset M b e) a d := by
  funext c
  unfold mset
  by_cases h1 : c = b
  · rw [if_pos h1, if_neg (fun z => h (z.symm.trans h1)), if_pos h1]
  · rw [if_neg h1]
    by_cases h2 : c = a
    · rw [if_pos h2, if_pos h2]
    · rw [if_neg h2, if_neg h2, if_neg h1]
theorem putD_lt {f : Str} {d : Dt} {m : Nat} : ∀ {fs : List (Str × Dt)}, fs.length < m → (putD f d fs).length < m + 1
  | [], _ => by unfold putD; show 1 < m + 1; omega
  | (k, x) :: fs, h => by
    unfold putD
    split
    · show fs.length + 1 < m + 1
      rw [List.length_cons] at h
      omega
    · rw [List.length_cons] at h ⊢
      have := putD_lt (f := f) (d := d) (m := m - 1) (fs := fs) (by omega)
      omega
theorem tab_take {t : List (Str × Act)} (nd : (t.map (·.1)).Nodup) {i : Nat} {p : Str × Act} (h : t[i]? = some p) : putA (kTab K (t.take i)) p.1 (dAct K p.2) = kTab K (t.take (i + 1)) := by
  have hi := (List.getElem?_eq_some_iff.mp h).1
  rw [putA_new]
  · rw [take_one h]
    unfold kTab
    rw [List.map_append]
    rfl
  · unfold kTab
    rw [List.map_map]
    show p.1 ∉ (t.take i).map (·.1)
    rw [List.map_take]
    intro hm
    have h2 : (t.map (·.1))[i]? = some p.1 := by rw [List.getElem?_map, h]; rfl
    obtain ⟨j, hj, e⟩ := List.mem_take_iff_getElem.mp hm
    have hj' : j < (t.map (·.1)).length := by omega
    have hi' : i < (t.map (·.1)).length := by rw [List.length_map]; exact hi
    have := (List.getElem_inj (h₀ := hj') (h₁ := hi') nd).mp (by rw [e, (List.getElem?_eq_some_iff.mp h2).2])
    omega
theorem body_Winit (T : Tx K mg) (cL : Cal P w K mg base 2 "check_lists" S_check_lists.sp []) : BodyOk P w K mg base 3 "World.__init__" s_World___init__ ["self", "facts", "piles", "reserves", "table", "name"] (S_Winit K) := by
  refine fun f cdv A outer s H E hr => ⟨_, pss_cons (ps_expr (pe_c cL hr (by omega) rfl (pa_cons (pe_lst (pa_cons (pv 1) (pa_cons (pv 2) (pa_cons (pv 3) pa_nil)))) pa_nil))) (pss_cons (ps_fld (pv 0) (pe_callTy call_list_of (by rfl) T.f_list (by decide +kernel) (pa_cons (pv 1) pa_nil)) rfl) (pss_cons (ps_fld (pv 0) (pe_callTy call_list_of (by rfl) T.f_list (by decide +kernel) (pa_cons (pv 2) pa_nil)) rfl) (pss_cons (ps_fld (pv 0) (pe_callTy call_list_of (by rfl) T.f_list (by decide +kernel) (pa_cons (pv 3) pa_nil)) rfl) (pss_cons (ps_fld (pv 0) pe_dnewK rfl) (pss_one (ps_if (pt_cmp (pc_notN (pv 4)) rfl) (pss_one (ps_fld (pv 0) (pe_lock (pe_dc (own := [("name", 5)]) rfl sc_World___init__.nd (pi_keys (pv 4)) (blkOk_by (own := [("name", 5)]) (N := ["self", "facts", "piles", "reserves", "table", "name"]) (sc := defScope s_World___init__) (by decide +kernel)) (fun _ _ _ _ _ => (pg_name (i := 5) sc_World___init__.nd rfl (Or.inl rfl))) (fun _ _ _ _ _ => pts_nil) (fun _ _ _ _ _ => (pv 5)) (fun _ _ _ _ _ => (pe_dget (hu_of hr) (pv 4) (pv 5) (fun _ _ => rfl))))) rfl)) pss_nil)))))), fun (x, n, tab) ds L M h => ?_⟩
  obtain ⟨rfl, hM, hn, ht, hL⟩ := h
  have hM : M x = some (.ins (cl K "World") []) := hM
  have hL : ∀ b, L b = none := hL
  walk_at "sy"
  refine e_lst ?_
  walk_at "sy"
  refine ⟨by simp, ?_⟩
  walk_at "sy"
  refine ⟨[n.1, n.2.1, n.2.2], ⟨rfl, ?_, ?_, ?_⟩, ?_⟩
  · intro p hp y hy
    refine hn.1 y ?_
    simp only [List.mem_cons, List.not_mem_nil, or_false] at hp
    rcases hp with rfl | rfl | rfl
    · exact List.mem_append_left _ (List.mem_append_left _ hy)
    · exact List.mem_append_left _ (List.mem_append_right _ hy)
    · exact List.mem_append_right _ hy
  · simpa [List.append_assoc] using hn.2.1
  · have := hn.2.2
    simpa [List.append_assoc, Nat.add_assoc] using this
  rintro d M2 ⟨rfl, rfl⟩
  walk_at "sy"
  refine c_list (vw_nm _ _) ?_
  walk_at "sy"
  refine ⟨x, _, _, rfl, hM, T.cWd, T.n_facts, by simp, ?_⟩
  walk_at "sy"
  refine c_list (vw_nm _ _) ?_
  walk_at "sy"
  refine ⟨x, _, _, rfl, mset_same, T.cWd, T.n_piles, by simp [putD], ?_⟩
  walk_at "sy"
  refine c_list (vw_nm _ _) ?_
  walk_at "sy"
  refine ⟨x, _, _, rfl, mset_same, T.cWd, T.n_reserves, putD_lt (putD_lt (m := 998) (by simp)), ?_⟩
  rw [mset_mset, mset_mset]
  walk_at "sy"
  refine e_dnewK fun t htn => ?_
  have hne : t ≠ x := by
    rintro rfl
    rw [mset_same] at htn
    cases htn
  have hMt : M t = none := by rw [mset_ne hne] at htn; exact htn
  walk_at "sy"
  refine ⟨x, _, _, rfl, by rw [mset_ne hne.symm]; exact mset_same, T.cWd, T.n_table, putD_lt (putD_lt (putD_lt (m := 997) (by simp))), ?_⟩
  have eM : ∀ d : Dt, mset (mset (mset M x d) t (.dK [])) x (dWdT K (n.wd []) (.adr t)) = mset (mset M x (dWdT K (n.wd []) (.adr t))) t (.dK []) := by
    intro d
    rw [mset_comm hne, mset_mset]
  have eM := eM (.ins (cl K "World") (putD "reserve_names" (.lst (dStrs n.2.2.2)) (putD "pile_names" (.lst (dStrs n.2.1.2)) (putD "fact_names" (.lst (dStrs n.1.2)) []))))
  change Run L _ (mset (mset (mset M x (.ins (cl K "World") (putD "reserve_names" (.lst (dStrs n.2.2.2)) (putD "pile_names" (.lst (dStrs n.2.1.2)) (putD "fact_names" (.lst (dStrs n.1.2)) []))))) t (.dK [])) x (dWdT K (n.wd []) (.adr t))) _ _
  rw [eM]
  cases tab with
  | none =>
    walk_at "sy"
    refine ⟨fun _ => ⟨_, rfl, iF rfl ?_⟩, fun e => absurd rfl e⟩
    walk_at "sy"
    exact ⟨rfl, t, hne, hMt, rfl⟩
  | some tb =>
    obtain ⟨nd, hlen⟩ := ht tb rfl
    refine Run.post ?_
    walk_at "sy"
    refine ⟨(fun e => nomatch e), fun _ => ⟨_, rfl, iT rfl ?_⟩⟩
    walk_at "sy"
    refine e_lockDcO (d := .dK (kTab K tb)) false (wo_name (by decide)) dTab_dK (loc_var rfl dTab_dK) (unl0 hL) (lkd_f dTab_dK) fun L' a od e1 e2 D hD => ?_
    have hDt : D ≠ t := by
      rintro rfl
      rw [mset_same] at hD
      cases hD
    have hDx : D ≠ x := by
      rintro rfl
      rw [mset_ne hDt, mset_same] at hD
      cases hD
    refine ⟨fun i M' => M' = mset (mset (mset M x (dWdT K (n.wd []) (.adr t))) t (.dK [])) D (.dK (kTab K (tb.take i))), rfl, ?_, ?_⟩
    · rintro i k M' hk rfl
      rw [keys_tab] at hk
      obtain ⟨p, q, rfl⟩ := at_map hk
      have hp := List.mem_of_getElem? q
      walk_at "sy"
      refine iT rfl ?_
      walk_at "sy"
      refine .inl ⟨_, _, rfl, rfl, dAct K p.2, by rw [kTab_look, tget_at nd hp]; rfl, ?_⟩
      refine ⟨_, _, rfl, mset_same, ?_, ?_⟩
      · unfold kTab
        rw [List.length_map, List.length_take]
        omega
      · rw [mset_mset, tab_take nd q]
    · rintro M' rfl
      have e : (keysD (Dt.dK (kTab K tb))).length = tb.length := by rw [keys_tab, List.length_map]
      rw [e, List.take_length]
      walk_at "sy"
      refine ⟨x, _, _, rfl, by rw [mset_ne hDx.symm, mset_ne hne.symm]; exact mset_same, T.cWd, T.n_table, by simp [fWd], ?_⟩
      refine ⟨mset (mset M x (dWdT K (n.wd []) (.adr D))) D (.dK (kTab K tb)), VwM.less fun b e h => ?_, rfl, D, hDx, by rw [mset_ne hDt, mset_ne hDx] at hD; exact hD, rfl⟩
      by_cases h1 : b = D
      · subst h1
        rw [mset_same] at h
        rw [mset_ne hDx, mset_same]
        exact h
      · rw [mset_ne h1] at h
        by_cases h2 : b = x
        · subst h2
          rw [mset_same] at h ⊢
          exact h
        · rw [mset_ne h2] at h ⊢
          rw [mset_ne h1, mset_ne (by rintro rfl; rw [hMt] at h; cases h), mset_ne h2]
          exact h
theorem VwM.thenD {L : Lk} {M M1 M2 : Mm} {d d' : Dt} (a : VwM L M M1) (b : VwD L M1 d M2 d') : VwD L M d M2 d' := fun H0 H v s r => by
  obtain ⟨H1, e1, s1⟩ := a H0 H s
  obtain ⟨H2, e2, s2, r2⟩ := b H1 H v s1 (r.up e1)
  exact ⟨H2, e1.trans e2, s2, r2⟩
theorem VwD.thenM {L : Lk} {M M1 M2 : Mm} {d d' : Dt} (a : VwD L M d M1 d') (b : VwM L M1 M2) : VwD L M d M2 d' := fun H0 H v s r => by
  obtain ⟨H1, e1, s1, r1⟩ := a H0 H v s r
  obtain ⟨H2, e2, s2⟩ := b H1 H s1
  exact ⟨H2, e1.trans e2, s2, r1.up e2⟩
/-- a world under construction becomes data -/
theorem vw_world {L : Lk} {M M0 : Mm} {x t : Addr} {v : Wd} {tb : List (Str × Act)} (hx : M x = some (dWdT K v (.adr t))) (ht : M t = some (.dK (kTab K tb))) (hne : t ≠ x) (h0 : ∀ b d, M0 b = some d → b ≠ x ∧ b ≠ t ∧ M b = some d) : VwD L M (.adr x) M0 (dWd K { v with table := tb }) := by
  have h1 : VwM L M (mset (mdel M t) x (dWd K { v with table := tb })) := VwM.fld (f := "table") (d := .dK (kTab K tb)) hx rfl ht hne
  have h2 : VwD L (mset (mdel M t) x (dWd K { v with table := tb })) (.adr x) (mdel (mset (mdel M t) x (dWd K { v with table := tb })) x) (dWd K { v with table := tb }) := VwD.frz mset_same
  refine (h1.thenD h2).thenM (VwM.less fun b d e => ?_)
  obtain ⟨n1, n2, e⟩ := h0 b d e
  rw [mdel_ne n1, mset_ne n1, mdel_ne n2]
  exact e
theorem e_world {L : Lk} {Γ : Gm} {M : Mm} {tr : TA} {E : XK} {P : Dt → Mm → Prop} (h : EvA L Γ M tr fun ds M1 => ∃ (n : W3) (tb : List (Str × Act)), ds = [dNm n.1.1 n.1.2, dNm n.2.1.1 n.2.1.2, dNm n.2.2.1 n.2.2.2, .dK (kTab K tb)] ∧ n.ok ∧ ((tb.map (·.1)).Nodup ∧ tb.length ≤ 100) ∧ (∀ b, L b = none) ∧ P (dWd K (n.wd tb)) M1) :
    Ev L Γ M (tMake (cl K "World") (S_Winit K).sp [] E tr) P :=
  Ev.post (e_make (fun _ => repL_nil) fun σ H0 H Q s g q => h σ H0 H Q s g fun vs ds M' H0' H' e s' rs p => q vs ds M' H0' H' e s' rs fun x hx => by
    obtain ⟨n, tb, h1, h2, h3, h4, h5⟩ := p
    refine ⟨(x, n, some tb), ⟨by rw [h1]; rfl, mset_same, h2, fun t e => by cases e; exact h3, h4⟩, ?_⟩
    rintro d M2 ⟨rfl, t, hne, ht, rfl⟩
    have ht : mset M' x (.ins (cl K "World") []) t = none := ht
    have hne : t ≠ x := hne
    rw [mset_ne hne] at ht
    refine ⟨rfl, _, M', vw_world (x := x) (t := t) (v := n.wd []) (tb := tb) (by rw [mset_ne hne.symm]; exact mset_same) mset_same hne (fun b d e => ?_), h5⟩
    have n1 : b ≠ x := by
      rintro rfl
      rw [hx] at e
      cases e
    have n2 : b ≠ t := by
      rintro rfl
      rw [ht] at e
      cases e
    exact ⟨n1, n2, by show mset (mset (mset M' x _) x _) t _ b = _; rw [mset_ne n2, mset_ne n1, mset_ne n1]; exact e⟩)
/-- the two ways to make one -/
structure MiW (K : PySem.W.Frag) (mg : Str → Option Value) : Prop where
  ex : ∃ x1 x2 x3, Mi K mg "World" (cl K "World") "World.__init__" s_World___init__ [x1, x2, x3, .non]
theorem ok_W4 (T : Tx K mg) (D : MiW K mg) (cL : Cal P w K mg base 2 "check_lists" S_check_lists.sp []) : Mak P w K mg base 4 "World" (cl K "World") (S_Winit K).sp [] := by
  obtain ⟨x1, x2, x3, D⟩ := D.ex
  exact mak_symD (n := 5) (j := 4) D sc_World___init__ (fun z => nomatch z) rfl (fun _ _ _ _ _ _ _ us its hl hi => match us, its, hl, hi with | [_, _, _, _, _], [_, _, _, _], _, _ => ⟨_, rfl, rfl⟩) (fun a ds L M h => by obtain ⟨rfl, _⟩ := h; rfl) (body_Winit T cL)
theorem ok_W3 (T : Tx K mg) (D : MiW K mg) (cL : Cal P w K mg base 2 "check_lists" S_check_lists.sp []) : Mak P w K mg base 4 "World" (cl K "World") (S_Winit K).sp [.non] := by
  obtain ⟨x1, x2, x3, D⟩ := D.ex
  exact mak_symD (n := 4) (j := 3) D sc_World___init__ (fun z => nomatch z) rfl (fun _ _ _ _ _ _ _ us its hl hi => match us, its, hl, hi with | [_, _, _, _], [_, _, _, _], _, _ => ⟨_, rfl, rfl⟩) (fun a ds L M h => by obtain ⟨rfl, _⟩ := h; rfl) (body_Winit T cL)
abbrev S_same_world (K : PySem.W.Frag) : FS := ⟨Wd, fun v ds L M => ds = [dWd K v] ∧ WdOk v ∧ ∀ b, L b = none, fun v M d M' => M = M' ∧ d = dWd K v⟩
theorem w3_ok {v : Wd} (h : NmsOk v) : W3.ok ((true, v.facts), (true, v.piles), (true, v.reserves)) := ⟨h.nm, h.nd, Nat.le_trans h.len (by decide)⟩
theorem ok_same_world (T : Tx K mg) (D : Df K mg "same_world" s_same_world) (kW : Mak P w K mg base 4 "World" (cl K "World") (S_Winit K).sp []) : Cal P w K mg base 6 "same_world" (S_same_world K).sp [] := by
  refine cal_sym D sc_same_world (fun _ _ _ _ _ _ us hl => match us, hl with | [_], _ => rfl) (fun a ds L M h => by obtain ⟨rfl, _⟩ := h; rfl) (fun f cdv A outer s H E hr => ⟨_, pss_one (ps_ret (pe_mk kW hr (by omega) rfl (pa_cons (pe_fld (pv 0) rfl) (pa_cons (pe_fld (pv 0) rfl) (pa_cons (pe_fld (pv 0) rfl) (pa_cons (pe_fld (pv 0) rfl) pa_nil)))))), fun (v : Wd) ds L M h => ?_⟩)
  obtain ⟨rfl, hw, hL⟩ := h
  refine r_ret (e_world ?_)
  walk_at "sy"
  refine ⟨_, _, _, rfl, T.cWd, T.n_facts, rfl, ?_⟩
  walk_at "sy"
  refine ⟨_, _, _, rfl, T.cWd, T.n_piles, rfl, ?_⟩
  walk_at "sy"
  refine ⟨_, _, _, rfl, T.cWd, T.n_reserves, rfl, ?_⟩
  walk_at "sy"
  refine ⟨_, _, _, rfl, T.cWd, T.n_table, rfl, ?_⟩
  walk_at "sy"
  exact ⟨((true, v.facts), (true, v.piles), (true, v.reserves)), v.table, rfl, w3_ok hw.nms, ⟨hw.nd, Nat.le_trans hw.len (by decide)⟩, hL, rfl, rfl⟩
theorem ok_Wcopy (T : Tx K mg) (D : Md K (cl K "World") "copy" "World.copy" s_World_copy) (cW : Cal P w K mg base 6 "same_world" (S_same_world K).sp []) : Met P w K mg base 7 (cl K "World") "copy" (S_same_world K).sp [] := by
  refine met_sym T.cWd D sc_World_copy (fun _ _ _ _ _ _ us hl => match us, hl with | [_], _ => rfl) (fun a ds L M h => by obtain ⟨rfl, _⟩ := h; rfl) (fun f cdv A outer s H E hr => ⟨_, pss_one (ps_ret (pe_c cW hr (by omega) rfl (pa_cons (pv 0) pa_nil))), fun (v : Wd) ds L M h => ?_⟩)
  obtain ⟨rfl, hw, hL⟩ := h
  walk_at "sy"
  refine ⟨v, ⟨rfl, hw, hL⟩, ?_⟩
  rintro d M2 ⟨rfl, rfl⟩
  exact ⟨rfl, rfl⟩
/-- world[name] = action, the world under construction -/
abbrev S_Wset (K : PySem.W.Frag) : FS := ⟨Addr × Addr × Wd × List (Str × Act) × Str × Act, fun a ds L M => ds = [.adr a.1, .s a.2.2.2.2.1, dAct K a.2.2.2.2.2] ∧ M a.1 = some (dWdT K a.2.2.1 (.adr a.2.1)) ∧ M a.2.1 = some (.dK (kTab K a.2.2.2.1)) ∧ a.2.1 ≠ a.1 ∧ NmsOk a.2.2.1 ∧ NameOk a.2.2.2.2.1 ∧ ActIn a.2.2.1 a.2.2.2.2.2 ∧ NoFlat L ∧ a.2.2.2.2.1 ∉ a.2.2.2.1.map (·.1) ∧ a.2.2.2.1.length ≤ 100,
  fun a M d M' => d = .non ∧ M' = mset M a.2.1 (.dK (kTab K (a.2.2.2.1 ++ [(a.2.2.2.2.1, a.2.2.2.2.2)])))⟩
theorem ok_Wset (T : Tx K mg) (D : Md K (cl K "World") "__setitem__" "World.__setitem__" s_World___setitem__) (mA : Met P w K mg base 9 (cl K "World") "check_action" (S_chact K).sp []) (cP : Cal P w K mg base 8 "copied_action" (S_copied K).sp []) : Dun P w K mg base 10 (cl K "World") "__setitem__" (S_Wset K).sp := by
  refine dun_sym D sc_World___setitem__ (fun _ _ _ _ _ _ us hl => match us, hl with | [_, _, _], _ => rfl) (fun a ds L M h => by obtain ⟨rfl, _⟩ := h; rfl) (fun f cdv A outer s H E hr => ⟨_, pss_cons (ps_expr (pe_mt mA hr (by omega) (pv 0) (pa_cons (pv 1) (pa_cons (pv 2) pa_nil)))) (pss_one (ps_dput (hu_of hr) (pe_fld (pv 0) rfl) (pv 1) (pe_c cP hr (by omega) rfl (pa_cons (pv 2) pa_nil)) rfl)), fun (x, t, v, tb, n, a) ds L M h => ?_⟩)
  obtain ⟨rfl, hx, ht, hne, hw, hn, hA, hL, hf, hlen⟩ := h
  have hx : M x = some (dWdT K v (.adr t)) := hx
  have ht : M t = some (.dK (kTab K tb)) := ht
  have hf : n ∉ tb.map (·.1) := hf
  have hlen : tb.length ≤ 100 := hlen
  have hA : ActIn v a := hA
  walk_at "sy"
  refine ⟨_, vw_adr hx, rfl, ?_⟩
  walk_at "sy"
  refine ⟨(v, n, a), ⟨⟨_, _, rfl, vw_adr hx⟩, hw, hn, hA, hL⟩, ?_⟩
  rintro d M2 ⟨rfl, rfl⟩
  walk_at "sy"
  refine ⟨a, ⟨rfl, hA.ok, hL⟩, ?_⟩
  rintro d M2 ⟨rfl, rfl⟩
  walk_at "sy"
  refine ⟨_, _, _, vw_adr hx, T.cWd, T.n_table, rfl, ?_⟩
  walk_at "sy"
  refine .inl ⟨_, _, ht, rfl, by unfold kTab; rw [List.length_map]; omega, rfl, ?_⟩
  show mset M t (.dK (putA (kTab K tb) n (dAct K a))) = _
  rw [putA_new (by unfold kTab; rw [List.map_map]; exact hf)]
  unfold kTab
  rw [List.map_append]
  rfl
def joinW (v u : Wd) : Wd := ⟨v.facts ++ u.facts, v.piles ++ u.piles, v.reserves ++ u.reserves, v.table ++ u.table⟩
def namesW (v : Wd) : List Str := v.facts ++ v.piles ++ v.reserves
abbrev S_Wor (K : PySem.W.Frag) : FS := ⟨Wd × Wd, fun a ds L M => ds = [dWd K a.1, dWd K a.2] ∧ WdOk a.1 ∧ WdOk a.2 ∧ (namesW a.1 ++ namesW a.2).Nodup ∧ ((a.1.table ++ a.2.table).map (·.1)).Nodup ∧ ∀ b, L b = none, fun a M d M' => M = M' ∧ d = dWd K (joinW a.1 a.2)⟩
theorem join_ok {v u : Wd} (hv : NmsOk v) (hu : NmsOk u) (hn : (namesW v ++ namesW u).Nodup) : W3.ok ((true, v.facts ++ u.facts), (true, v.piles ++ u.piles), (true, v.reserves ++ u.reserves)) := by
  have hp : ((v.facts ++ u.facts) ++ (v.piles ++ u.piles) ++ (v.reserves ++ u.reserves)).Perm (namesW v ++ namesW u) := by
    rw [List.perm_iff_count]
    intro a
    unfold namesW
    simp only [List.count_append]
    omega
  refine ⟨fun x hx => ?_, hp.nodup_iff.mpr hn, ?_⟩
  · have := hp.mem_iff.mp hx
    rcases List.mem_append.mp this with h | h
    · exact hv.nm x h
    · exact hu.nm x h
  · have h1 := hp.length_eq
    have h2 := hv.len
    have h3 := hu.len
    rw [List.length_append (as := namesW v)] at h1
    unfold namesW at h1
    show ((v.facts ++ u.facts) ++ (v.piles ++ u.piles) ++ (v.reserves ++ u.reserves)).length ≤ 100
    omega
theorem ok_Wor (T : Tx K mg) (D : Md K (cl K "World") "__or__" "World.__or__" s_World___or__) (kW : Mak P w K mg base 4 "World" (cl K "World") (S_Winit K).sp []) : Dun P w K mg base 6 (cl K "World") "__or__" (S_Wor K).sp := by
  refine dun_sym D sc_World___or__ (fun _ _ _ _ _ _ us hl => match us, hl with | [_, _], _ => rfl) (fun a ds L M h => by obtain ⟨rfl, _⟩ := h; rfl) (fun f cdv A outer s H E hr => ⟨_, pss_cons (ps_if (pt_not (pt_val (pe_callB (C8.call_isC T.i_World) (by rfl) T.f_isinstance (by decide +kernel) (pa_cons (pv 1) (pa_cons (pe_gr rfl T.g_World) pa_nil))))) (pss_one ps_never) pss_nil) (pss_cons (ps_for PassesOwn.never rfl (pi_list (pe_op op_cat (pe_op op_cat (pe_fld (pv 1) rfl) (pe_fld (pv 1) rfl)) (pe_fld (pv 1) rfl))) (pg_name (i := 2) sc_World___or__.nd rfl (Or.inl rfl)) (pss_one (ps_if (pt_cmpR op_in_seq (pv 2) (pe_op op_cat (pe_op op_cat (pe_fld (pv 0) rfl) (pe_fld (pv 0) rfl)) (pe_fld (pv 0) rfl)) rfl) (pss_one ps_never) pss_nil))) (pss_cons (ps_set (i := 3) sc_World___or__.nd rfl (Or.inl rfl) (pe_callTy (call_dictP rfl) (by rfl) T.f_dict (by decide +kernel) (pa_cons (pe_lock (pe_lc (own := [("name", 2)]) rfl sc_World___or__.nd (pi_keys (pe_fld (pv 0) rfl)) (blkOk_by (own := [("name", 2)]) (N := ["self", "other", "name", "table"]) (sc := defScope s_World___or__) (by decide +kernel)) (fun _ _ _ _ _ => (pg_name (i := 2) sc_World___or__.nd rfl (Or.inl rfl))) (fun _ _ _ _ _ => pts_nil) (fun _ _ _ _ _ => (pe_tup (pa_cons (pv 2) (pa_cons (pe_dget (hu_of hr) (show PE _ _ (tFld K _ _) from (pe_fld (pv 0) rfl)) (pv 2) (fun _ _ => rfl)) pa_nil)))))) pa_nil))) (pss_cons (ps_lock (ps_for PassesOwn.never rfl (pi_keys (pe_fld (pv 1) rfl)) (pg_name (i := 2) sc_World___or__.nd rfl (Or.inl rfl)) (pss_cons (ps_if (pt_cmp (pc_din (hu_of hr) (pv 2) (pe_fld (pv 0) rfl)) rfl) (pss_one ps_never) pss_nil) (pss_one (ps_dput (hu_of hr) (pv 3) (pv 2) (pe_dget (hu_of hr) (pe_fld (pv 1) rfl) (pv 2) (fun _ _ => rfl)) rfl))))) (pss_one (ps_ret (pe_mk kW hr (by omega) rfl (pa_cons (pe_op op_cat (pe_fld (pv 0) rfl) (pe_fld (pv 1) rfl)) (pa_cons (pe_op op_cat (pe_fld (pv 0) rfl) (pe_fld (pv 1) rfl)) (pa_cons (pe_op op_cat (pe_fld (pv 0) rfl) (pe_fld (pv 1) rfl)) (pa_cons (pv 3) pa_nil)))))))))), fun (v, u) ds L M h => ?_⟩)
  obtain ⟨rfl, hv, hu, hn, ht, hL⟩ := h
  have hv : WdOk v := hv
  have hu : WdOk u := hu
  have hn : (namesW v ++ namesW u).Nodup := hn
  have ht : ((v.table ++ u.table).map (·.1)).Nodup := ht
  have hL : ∀ b, L b = none := hL
  have l1 := len_sub hv.nms
  have l2 := len_sub hu.nms
  have l3 := hv.len
  have l4 := hu.len
  have ht' := ht
  rw [List.map_append] at ht'
  walk_at "sy"
  refine c_isC ⟨_, rfl⟩ ?_
  refine ⟨_, rfl, iF rfl ?_⟩
  walk_at "sy"
  refine ⟨_, _, _, rfl, T.cWd, T.n_facts, rfl, ?_⟩
  walk_at "sy"
  refine ⟨_, _, _, rfl, T.cWd, T.n_piles, rfl, ?_⟩
  refine o_cat rfl rfl (by simp only [dStrs, List.length_map]; omega) ?_
  walk_at "sy"
  refine ⟨_, _, _, rfl, T.cWd, T.n_reserves, rfl, ?_⟩
  refine o_cat rfl rfl (by simp only [dStrs, List.length_map, List.length_append]; omega) ?_
  refine ⟨_, rfl, ?_⟩
  refine ⟨fun i Γ' M' => (∃ u2, Γ' = [some (dWd K v), some (dWd K u), u2, none]) ∧ M = M', ⟨⟨none, rfl⟩, rfl⟩, ?_, ?_⟩
  · rintro i d Γ' M' hd ⟨⟨u2, rfl⟩, rfl⟩
    rw [← dStrs_app, ← dStrs_app] at hd
    obtain ⟨z, hz, rfl⟩ := dStrs_at hd
    have hz := List.mem_of_getElem? hz
    walk_at "sy"
    refine ⟨_, _, _, rfl, T.cWd, T.n_facts, rfl, ?_⟩
    walk_at "sy"
    refine ⟨_, _, _, rfl, T.cWd, T.n_piles, rfl, ?_⟩
    refine o_cat rfl rfl (by simp only [dStrs, List.length_map]; omega) ?_
    walk_at "sy"
    refine ⟨_, _, _, rfl, T.cWd, T.n_reserves, rfl, ?_⟩
    refine o_cat rfl rfl (by simp only [dStrs, List.length_map, List.length_append]; omega) ?_
    rw [← dStrs_app, ← dStrs_app]
    refine o_inS (.inl rfl) ⟨_, rfl, iF ?_ ?_⟩
    · simp only [Bool.false_eq_true, if_false]
      exact decide_eq_false fun h => (List.nodup_append.mp hn).2.2 z h z hz rfl
    · walk_at "sy"
      exact ⟨⟨_, rfl⟩, rfl⟩
  rintro Γ' M' ⟨⟨u2, rfl⟩, rfl⟩
  walk_at "sy"
  refine e_lockM (α := Str × Act) (src := v.table) (f := fun p => .s p.1) (yes := fun _ => true) (val := fun p => .tup [.s p.1, dAct K p.2]) false (wo_name (by decide)) dTab_dK (loc_fld (i := 0) rfl rfl T.cWd T.n_table rfl dTab_dK) (unl0 hL) (lkd_f dTab_dK) (keys_tab v.table) (by omega) (fun L' a od e1 e2 p hp => ?_) ?_
  · subst e1
    intro M' l
    walk_at "sy"
    refine ⟨rfl, ?_⟩
    walk_at "sy"
    refine ⟨rfl, rfl, fun _ => ?_⟩
    walk_at "sy"
    refine ⟨_, _, _, rfl, T.cWd, T.n_table, rfl, ?_⟩
    walk_at "sy"
    refine .inl ⟨_, _, rfl, rfl, dAct K p.2, by rw [kTab_look, tget_at hv.nd hp]; rfl, ?_⟩
    walk_at "sy"
    refine ⟨by simp, rfl, rfl⟩
  rw [filter_tt]
  walk_at "sy"
  refine c_dictP (l := kTab K v.table) (by unfold kTab; rw [List.map_map]; rfl) (by unfold kTab; rw [List.map_map]; exact hv.nd) fun t htn => ?_
  walk_at "sy"
  refine r_lockFor false dTab_dK (loc_fld (i := 1) rfl rfl T.cWd T.n_table rfl dTab_dK) (fun H0 H a s r => hL a) (lkd_f dTab_dK) fun L' a od e1 e2 => ?_
  refine ⟨fun i Γ' M' => (∃ u2, Γ' = [some (dWd K v), some (dWd K u), u2, some (.adr t)]) ∧ M' = mset M t (.dK (kTab K (v.table ++ u.table.take i))), ⟨⟨_, rfl⟩, by simp⟩, ?_, ?_⟩
  · rintro i k Γ' M' hk ⟨⟨u2, rfl⟩, rfl⟩
    rw [keys_tab] at hk
    obtain ⟨p, q, rfl⟩ := at_map hk
    have hp := List.mem_of_getElem? q
    have hpv : p.1 ∉ v.table.map (·.1) := fun h => (List.nodup_append.mp ht').2.2 _ h _ (List.mem_map.mpr ⟨p, hp, rfl⟩) rfl
    walk_at "sy"
    refine ⟨_, _, _, rfl, T.cWd, T.n_table, rfl, ?_⟩
    refine .inl ⟨_, _, rfl, rfl, _, rfl, iF ?_ ?_⟩
    · rw [kTab_look]
      cases q2 : tget v.table p.1 with
      | none => rfl
      | some b => exact absurd (List.mem_map.mpr ⟨_, tget_mem q2, rfl⟩) hpv
    walk_at "sy"
    refine ⟨_, _, _, rfl, T.cWd, T.n_table, rfl, ?_⟩
    walk_at "sy"
    refine .inl ⟨_, _, rfl, rfl, dAct K p.2, by rw [kTab_look, tget_at hu.nd hp]; rfl, ?_⟩
    walk_at "sy"
    refine .inl ⟨_, _, mset_same, rfl, by unfold kTab; rw [List.length_map, List.length_append, List.length_take]; omega, ⟨_, rfl⟩, ?_⟩
    rw [mset_mset]
    have hj : (v.table ++ u.table)[v.table.length + i]? = some p := by rw [List.getElem?_append_right (by omega)]; simpa using q
    have h2 := tab_take (K := K) ht hj
    rw [List.take_length_add_append, Nat.add_assoc, List.take_length_add_append] at h2
    rw [h2]
  · rintro Γ' M' ⟨⟨u2, rfl⟩, rfl⟩
    have e : (keysD (Dt.dK (kTab K u.table))).length = u.table.length := by rw [keys_tab, List.length_map]
    rw [e, List.take_length]
    refine r_ret (e_world ?_)
    walk_at "sy"
    refine ⟨_, _, _, rfl, T.cWd, T.n_facts, rfl, ?_⟩
    walk_at "sy"
    refine ⟨_, _, _, rfl, T.cWd, T.n_facts, rfl, ?_⟩
    refine o_cat rfl rfl (by simp only [dStrs, List.length_map]; omega) ?_
    walk_at "sy"
    refine ⟨_, _, _, rfl, T.cWd, T.n_piles, rfl, ?_⟩
    walk_at "sy"
    refine ⟨_, _, _, rfl, T.cWd, T.n_piles, rfl, ?_⟩
    refine o_cat rfl rfl (by simp only [dStrs, List.length_map]; omega) ?_
    walk_at "sy"
    refine ⟨_, _, _, rfl, T.cWd, T.n_reserves, rfl, ?_⟩
    walk_at "sy"
    refine ⟨_, _, _, rfl, T.cWd, T.n_reserves, rfl, ?_⟩
    refine o_cat rfl rfl (by simp only [dStrs, List.length_map]; omega) ?_
    refine a_cons (e_frz ?_)
    walk_at "sy"
    refine ⟨_, _, rfl, mset_same, ?_⟩
    walk_at "sy"
    refine ⟨((true, v.facts ++ u.facts), (true, v.piles ++ u.piles), (true, v.reserves ++ u.reserves)), v.table ++ u.table, by simp only [dNm, if_true, dStrs_app], join_ok hv.nms hu.nms hn, ⟨ht, by rw [List.length_append]; omega⟩, hL, (mdel_mset htn).symm, rfl⟩
end
end K85
set_option maxRecDepth 100000
set_option maxHeartbeats 4000000
/-! tasks -/
namespace K85
open PySem L2
open C8 (Cal Met Mak pe_c pe_mk pe_mt pe_mt0 pe_gc)
local macro_rules | `(tactic| walk_at "sy1") => `(tactic| with_reducible first
  | refine r_seq ?_ | refine r_if ?_ | refine r_ret ?_ | refine r_retN ?_ | refine r_asg ?_ | refine r_drop ?_ | refine r_brk ?_ | refine r_cont ?_ | refine r_fld ?_ | refine r_dput ?_ | refine r_for ?_ | refine r_next ?_
  | refine g_name ?_ | refine g_tup ?_ | refine g_unl ?_ | refine g_cons ?_ | refine g_nil ?_
  | refine t_test ?_ | refine t_B ?_ | refine t_not ?_ | refine t_and ?_ | refine t_or ?_ | refine t_yes ?_
  | refine e_var rfl ?_ | refine e_int ?_ | refine e_str ?_ | refine e_bl ?_ | refine e_non ?_ | refine e_ref ?_ | refine e_op ?_ | refine e_un ?_ | refine e_andV ?_ | refine e_orV ?_ | refine e_notV ?_ | refine e_if ?_ | refine e_isN ?_ | refine e_notN ?_
  | refine e_tup ?_ | refine e_fld ?_ | refine e_call0 ?_ | refine e_meth0 ?_ | refine e_cb ?_ | refine e_bm ?_ | refine e_dget ?_ | refine e_dget1 ?_ | refine e_din ?_ | refine e_dnotin ?_ | refine e_chain ?_ | refine e_fcall ?_ | refine e_sm ?_
  | refine a_nil ?_ | refine a_cons ?_ | refine i_list ?_ | refine i_tup ?_ | refine i_seq ?_ | refine i_rng1 ?_ | refine i_str ?_
  | refine s_none ?_ | refine s_some ?_ | refine e_slL ?_ | refine e_slT ?_
  | refine o_II ?_ | refine o_IB ?_)
local macro_rules | `(tactic| walk_at "sy") => `(tactic| repeat (first | walk_at "sy1" | refine ⟨_, rfl, ?_⟩ | refine ⟨(rfl : List.lookup _ _ = none), ?_⟩))
local macro_rules | `(tactic| walk_at "eqF") => `(tactic| (refine o_eq rfl rfl rfl ?_; walk_at "sy"; refine iF (by decide +kernel) ?_; walk_at "sy"))
local macro_rules | `(tactic| walk_at "eqT") => `(tactic| (refine o_eq rfl rfl rfl ?_; walk_at "sy"; refine iT (by decide +kernel) ?_; walk_at "sy"))
local macro_rules | `(tactic| walk_at "pureEnd") => `(tactic| (rintro d M' ⟨rfl, rfl⟩))
abbrev s_check_condition : Stmt := top 46
theorem sc_check_condition : FnScope ["world", "condition", "name"] ["world", "condition"] (defScope s_check_condition) := ⟨rfl, rfl, rfl, by decide +kernel, rfl, by decide +kernel, by decide +kernel⟩
abbrev s_Task___init__ : Stmt := inClass (top 47) 0
theorem sc_Task___init__ : FnScope ["self", "world", "start", "goal"] ["self", "world", "start", "goal"] (defScope s_Task___init__) := ⟨rfl, rfl, rfl, by decide +kernel, rfl, by decide +kernel, by decide +kernel⟩
abbrev s_Task_base : Stmt := inClass (top 47) 5
theorem sc_Task_base : FnScope ["self"] ["self"] (defScope s_Task_base) := ⟨rfl, rfl, rfl, by decide +kernel, rfl, by decide +kernel, by decide +kernel⟩
abbrev s_Task_goals : Stmt := inClass (top 47) 7
theorem sc_Task_goals : FnScope ["self", "state"] ["self"] (defScope s_Task_goals) := ⟨rfl, rfl, rfl, by decide +kernel, rfl, by decide +kernel, by decide +kernel⟩
def CondIn (v : Wd) (t : Tr) : Prop := t.depth ≤ 5 ∧ t.names.length ≤ 32 ∧ ∀ x ∈ t.names, x ∈ v.seen
abbrev S_checkc (K : PySem.W.Frag) : FS := ⟨Wd × Tr, fun a ds L M => ds = [dWd K a.1, dCond K a.2] ∧ NmsOk a.1 ∧ CondIn a.1 a.2, fun a M d M' => M = M' ∧ d = .non⟩
abbrev S_Tinit (K : PySem.W.Frag) : FS := initS (cl K "Task") (Wd × Tr × Tr) (fun a => [dWd K a.1, dCond K a.2.1, dCond K a.2.2]) (fun a L => WdOk a.1 ∧ CondIn a.1 a.2.1 ∧ CondIn a.1 a.2.2 ∧ ∀ b, L b = none) (fun a => fTask (dWd K a.1) (dCond K a.2.1) (dCond K a.2.2))
abbrev S_base (K : PySem.W.Frag) : FS := ⟨Wd × Tr × Tr, fun a ds L M => ds = [dTask K a.1 a.2.1 a.2.2] ∧ WdOk a.1 ∧ ∀ b, L b = none, fun a M d M' => M = M' ∧ d = dWd K a.1⟩
def goalsL (v : Wd) (g : Tr) : List (List Str) := (statesL v.seen).filter fun s => g.holds s
abbrev S_goals (K : PySem.W.Frag) : FS := ⟨Wd × Tr × Tr, fun a ds L M => ds = [dTask K a.1 a.2.1 a.2.2] ∧ NmsOk a.1 ∧ a.2.2.depth ≤ 5, fun a M d M' => M = M' ∧ d = .lst (dSts (goalsL a.1 a.2.2))⟩
section
variable {P : Program} {w : World} {K : PySem.W.Frag} {mg : Str → Option Value} {base : Heap}
theorem ok_checkc (T : Tx K mg) (D : Df K mg "check_condition" s_check_condition) (mCn : Met P w K mg base 7 (cl K "Condition") "names" (S_Cnames K).sp []) (mS : Met P w K mg base 1 (cl K "World") "seen" (S_seen K).sp []) : Cal P w K mg base 8 "check_condition" (S_checkc K).sp [] := by
  refine cal_sym D sc_check_condition (fun _ _ _ _ _ _ us hl => match us, hl with | [_, _], _ => rfl) (fun a ds L M h => by obtain ⟨rfl, _⟩ := h; rfl) (fun f cdv A outer s H E hr => ⟨_, pss_one (ps_for PassesOwn.never rfl (pi_list (pe_mt0 mCn hr (by omega) (pv 1))) (pg_name (i := 2) sc_check_condition.nd rfl (Or.inl rfl)) (pss_one (ps_if (pt_cmpR op_notIn_seq (pv 2) (pe_mt0 mS hr (by omega) (pv 0)) rfl) (pss_one ps_never) pss_nil))), fun (v, t) ds L M h => ?_⟩)
  obtain ⟨rfl, hw, h1, h2, h3⟩ := h
  walk_at "sy"
  refine ⟨t, ⟨rfl, h1, h2⟩, ?_⟩
  rintro d M2 ⟨rfl, ys, rfl, hy⟩
  refine ⟨_, rfl, ?_⟩
  refine ⟨fun i Γ' M' => (∃ u, Γ' = [some (dWd K v), some (dCond K t), u]) ∧ M = M', ⟨⟨none, rfl⟩, rfl⟩, ?_, ?_⟩
  · rintro i d Γ' M' hd ⟨⟨u, rfl⟩, rfl⟩
    obtain ⟨z, hz, rfl⟩ := dStrs_at hd
    have hz := h3 z (hy z (List.mem_of_getElem? hz))
    walk_at "sy"
    refine ⟨v, ⟨⟨_, _, rfl, rfl⟩, hw⟩, ?_⟩
    rintro d M2 ⟨rfl, rfl⟩
    refine o_inS (.inl rfl) ⟨_, rfl, iF (by simp only [if_true]; rw [decide_eq_true hz]; rfl) ?_⟩
    walk_at "sy"
    exact ⟨⟨_, rfl⟩, rfl⟩
  · rintro Γ' M' ⟨⟨u, rfl⟩, rfl⟩
    exact ⟨rfl, rfl⟩
theorem ok_Tinit (T : Tx K mg) (D : Mi K mg "Task" (cl K "Task") "Task.__init__" s_Task___init__ []) (mW : Met P w K mg base 7 (cl K "World") "copy" (S_same_world K).sp []) (cC : Cal P w K mg base 8 "check_condition" (S_checkc K).sp []) : Mak P w K mg base 9 "Task" (cl K "Task") (S_Tinit K).sp [] := by
  refine mak_sym D sc_Task___init__ (fun _ _ _ _ _ _ us hl => match us, hl with | [_, _, _, _], _ => rfl) (fun a ds L M h => by obtain ⟨rfl, _⟩ := h; rfl) (fun f cdv A outer s H E hr => ⟨_, pss_cons (ps_fld (pv 0) (pe_mt0 mW hr (by omega) (pv 1)) rfl) (pss_cons (ps_expr (pe_c cC hr (by omega) rfl (pa_cons (pe_fld (pv 0) rfl) (pa_cons (pv 2) pa_nil)))) (pss_cons (ps_expr (pe_c cC hr (by omega) rfl (pa_cons (pe_fld (pv 0) rfl) (pa_cons (pv 3) pa_nil)))) (pss_cons (ps_fld (pv 0) (pv 2) rfl) (pss_one (ps_fld (pv 0) (pv 3) rfl))))), fun (x, v, t, g) ds L M h => ?_⟩)
  obtain ⟨rfl, hM, hw, ht, hg, hL⟩ := h
  have hM : M x = some (.ins (cl K "Task") []) := hM
  have hw : WdOk v := hw
  walk_at "sy"
  refine ⟨v, ⟨rfl, hw, hL⟩, ?_⟩
  rintro d M2 ⟨rfl, rfl⟩
  walk_at "sy"
  refine ⟨x, _, _, rfl, hM, T.cTask, T.n_inner, by simp, ?_⟩
  walk_at "sy"
  refine ⟨_, _, _, vw_adr mset_same, T.cTask, T.n_inner, rfl, ?_⟩
  walk_at "sy"
  refine ⟨(v, t), ⟨rfl, hw.nms, ht⟩, ?_⟩
  rintro d M2 ⟨rfl, rfl⟩
  walk_at "sy"
  refine ⟨_, _, _, vw_adr mset_same, T.cTask, T.n_inner, rfl, ?_⟩
  walk_at "sy"
  refine ⟨(v, g), ⟨rfl, hw.nms, hg⟩, ?_⟩
  rintro d M2 ⟨rfl, rfl⟩
  walk_at "sy"
  refine ⟨x, _, _, rfl, mset_same, T.cTask, T.n_begin, putD_lt (m := 999) (by simp), ?_⟩
  walk_at "sy"
  refine ⟨x, _, _, rfl, mset_same, T.cTask, T.n_aimed, putD_lt (putD_lt (m := 998) (by simp)), ?_⟩
  rw [mset_mset, mset_mset]
  exact ⟨rfl, rfl⟩
theorem ok_base (T : Tx K mg) (D : Md K (cl K "Task") "base" "Task.base" s_Task_base) (mW : Met P w K mg base 7 (cl K "World") "copy" (S_same_world K).sp []) : Met P w K mg base 8 (cl K "Task") "base" (S_base K).sp [] := by
  refine met_sym T.cTask D sc_Task_base (fun _ _ _ _ _ _ us hl => match us, hl with | [_], _ => rfl) (fun a ds L M h => by obtain ⟨rfl, _⟩ := h; rfl) (fun f cdv A outer s H E hr => ⟨_, pss_one (ps_ret (pe_mt0 mW hr (by omega) (pe_fld (pv 0) rfl))), fun (v, t, g) ds L M h => ?_⟩)
  obtain ⟨rfl, hw, hL⟩ := h
  walk_at "sy"
  refine ⟨_, _, dWd K v, rfl, T.cTask, T.n_inner, rfl, ?_⟩
  walk_at "sy"
  refine ⟨v, ⟨rfl, hw, hL⟩, ?_⟩
  rintro d M2 ⟨rfl, rfl⟩
  exact ⟨rfl, rfl⟩
theorem states_len {v : Wd} (hw : NmsOk v) : (statesL v.seen).length ≤ 16 := by
  unfold statesL
  rw [fold_len]
  have := hw.sl
  have h : v.seen.length ≤ 4 := by unfold Wd.seen; rw [List.length_append]; omega
  have : 2 ^ v.seen.length ≤ 2 ^ 4 := Nat.pow_le_pow_right (by decide) h
  simp
  omega
theorem ok_goals (T : Tx K mg) (D : Md K (cl K "Task") "goals" "Task.goals" s_Task_goals) (mS : Met P w K mg base 2 (cl K "World") "states" (S_states K).sp []) (dC : Dun P w K mg base 7 (cl K "Condition") "__call__" (S_Ccall K).sp) : Met P w K mg base 8 (cl K "Task") "goals" (S_goals K).sp [] := by
  refine met_sym T.cTask D sc_Task_goals (fun _ _ _ _ _ _ us hl => match us, hl with | [_], _ => rfl) (fun a ds L M h => by obtain ⟨rfl, _⟩ := h; rfl) (fun f cdv A outer s H E hr => ⟨_, pss_one (ps_ret (pe_lc (own := [("state", 1)]) rfl sc_Task_goals.nd (pi_list (pe_mt0 mS hr (by omega) (pe_fld (pv 0) rfl))) (blkOk_by (own := [("state", 1)]) (N := ["self", "state"]) (sc := defScope s_Task_goals) (by decide +kernel)) (fun _ _ _ _ _ => (pg_name (i := 1) sc_Task_goals.nd rfl (Or.inl rfl))) (fun _ _ _ _ _ => (pts_one (pt_val (show PE _ _ (tFCall K _ _ _ _ _ _) from (pe_fc dC hr (by omega) (pv 0) (pa_cons (pv 1) pa_nil)))))) (fun _ _ _ _ _ => (pv 1)))), fun (v, t, g) ds L M h => ?_⟩)
  obtain ⟨rfl, hw, hg⟩ := h
  have hw : NmsOk v := hw
  have hsl := states_len hw
  walk_at "sy"
  refine e_lcM (α := List Str) (wo_name (by decide)) ?_
  walk_at "sy"
  refine ⟨_, _, dWd K v, rfl, T.cTask, T.n_inner, rfl, ?_⟩
  walk_at "sy"
  refine ⟨v, ⟨⟨_, _, rfl, rfl⟩, hw⟩, ?_⟩
  rintro d M2 ⟨rfl, rfl⟩
  refine ⟨_, rfl, ?_⟩
  refine ⟨statesL v.seen, fun s => .tup (dStrs s), fun s => g.holds s, fun s => .tup (dStrs s), rfl, by omega, fun st hs => ?_, rfl, rfl⟩
  intro M' l
  walk_at "sy"
  refine ⟨rfl, ?_⟩
  walk_at "sy"
  refine ⟨_, _, fCond g.d, rfl, T.cTask, T.n_aimed, rfl, ?_⟩
  walk_at "sy"
  refine ⟨(g, false, st), ⟨rfl, hg⟩, ?_⟩
  rintro d M2 ⟨rfl, rfl⟩
  refine ⟨_, rfl, rfl, rfl, fun _ => ?_⟩
  walk_at "sy"
  exact ⟨rfl, rfl⟩
end
end K85
set_option maxRecDepth 100000
set_option maxHeartbeats 4000000
/-! the game: edges -/
namespace K85
open PySem L2
open C8 (Cal Met Mak pe_c pe_mk pe_mt pe_mt0 pe_gc)
local macro_rules | `(tactic| walk_at "sy1") => `(tactic| with_reducible first
  | refine r_seq ?_ | refine r_if ?_ | refine r_ret ?_ | refine r_retN ?_ | refine r_asg ?_ | refine r_drop ?_ | refine r_brk ?_ | refine r_cont ?_ | refine r_fld ?_ | refine r_dput ?_ | refine r_for ?_ | refine r_next ?_
  | refine g_name ?_ | refine g_tup ?_ | refine g_unl ?_ | refine g_cons ?_ | refine g_nil ?_
  | refine t_test ?_ | refine t_B ?_ | refine t_not ?_ | refine t_and ?_ | refine t_or ?_ | refine t_yes ?_
  | refine e_var rfl ?_ | refine e_int ?_ | refine e_str ?_ | refine e_bl ?_ | refine e_non ?_ | refine e_ref ?_ | refine e_op ?_ | refine e_un ?_ | refine e_andV ?_ | refine e_orV ?_ | refine e_notV ?_ | refine e_if ?_ | refine e_isN ?_ | refine e_notN ?_
  | refine e_tup ?_ | refine e_fld ?_ | refine e_call0 ?_ | refine e_meth0 ?_ | refine e_cb ?_ | refine e_bm ?_ | refine e_dget ?_ | refine e_dget1 ?_ | refine e_din ?_ | refine e_dnotin ?_ | refine e_chain ?_ | refine e_fcall ?_ | refine e_sm ?_
  | refine a_nil ?_ | refine a_cons ?_ | refine i_list ?_ | refine i_tup ?_ | refine i_seq ?_ | refine i_rng1 ?_ | refine i_str ?_
  | refine s_none ?_ | refine s_some ?_ | refine e_slL ?_ | refine e_slT ?_
  | refine o_II ?_ | refine o_IB ?_)
local macro_rules | `(tactic| walk_at "sy") => `(tactic| repeat (first | walk_at "sy1" | refine ⟨_, rfl, ?_⟩ | refine ⟨(rfl : List.lookup _ _ = none), ?_⟩))
local macro_rules | `(tactic| walk_at "eqF") => `(tactic| (refine o_eq rfl rfl rfl ?_; walk_at "sy"; refine iF (by decide +kernel) ?_; walk_at "sy"))
local macro_rules | `(tactic| walk_at "eqT") => `(tactic| (refine o_eq rfl rfl rfl ?_; walk_at "sy"; refine iT (by decide +kernel) ?_; walk_at "sy"))
local macro_rules | `(tactic| walk_at "pureEnd") => `(tactic| (rintro d M' ⟨rfl, rfl⟩))
abbrev s_Game_added_edges : Stmt := inClass (top 2) 1
theorem sc_Game_added_edges : FnScope ["self", "world", "reached", "state", "action", "found", "index", "gone", "behind", "taken", "added"] ["self", "world", "reached", "state", "action"] (defScope s_Game_added_edges) := ⟨rfl, rfl, rfl, by decide +kernel, rfl, by decide +kernel, by decide +kernel⟩
abbrev s_Game___init__ : Stmt := inClass (top 2) 0
theorem sc_Game___init__ : FnScope ["self", "task", "without", "world", "reached", "state", "action"] ["self", "task", "without"] (defScope s_Game___init__) := ⟨rfl, rfl, rfl, by decide +kernel, rfl, by decide +kernel, by decide +kernel⟩
structure Edge where
  tgt : Option (List Str)
  taken : List Str
  added : List Str
  idx : Nat
  gone : List Str
def dTgt : Option (List Str) → Dt
  | none => .non
  | some s => .tup (dStrs s)
def dEdge (e : Edge) : Dt := .tup [dTgt e.tgt, .tup (dStrs e.taken), .tup (dStrs e.added), .i (e.idx : Nat), .tup (dStrs e.gone)]
def edgeOf (v : Wd) (g : Tr) (st : List Str) (a : Act) (r : Nat × List Str × List Str) : Edge :=
  ⟨if g.holds r.2.2 then none else some r.2.2, v.counters.filter (takenA (a.parts.getD r.1 []) st), v.counters.filter (addedA (a.parts.getD r.1 [])), r.1, r.2.1⟩
def edgesA (v : Wd) (g : Tr) (st : List Str) (a : Act) : List Edge := (resA v st a).map (edgeOf v g st a)
def dNums (l : List Nat) : Dt := .lst (l.map fun k => .i ((k : Nat) : Int))
abbrev S_AE (K : PySem.W.Frag) : FS := ⟨Addr × List (Str × Dt) × Addr × List Edge × Wd × Tr × List Str × Str × Act, fun q ds L M =>
    let (x, fs, e, es, v, g, st, n, a) := q
    ds = [.adr x, dWd K v, .lst (dSts (goalsL v g)), .tup (dStrs st), .s n] ∧ M x = some (.ins (cl K "Game") fs) ∧ fs.lookup ("edges" : Str) = some (Dt.adr e) ∧ M e = some (.lst (es.map dEdge)) ∧ e ≠ x ∧ WdOk v ∧ StOf v st ∧ tget v.table n = some a ∧ fitsA v st a = true ∧ es.length ≤ 50000 ∧ NoFlat L,
  fun q M d M' => let (x, fs, e, es, v, g, st, n, a) := q
    M' = mset M e (.lst ((es ++ edgesA v g st a).map dEdge)) ∧ d = dNums (List.range' es.length (edgesA v g st a).length)⟩
section
variable {P : Program} {w : World} {K : PySem.W.Frag} {mg : Str → Option Value} {base : Heap}
/-! states -/
theorem mem_fold (ns : List Str) : ∀ (l : List (List Str)) (s : List Str), s ∈ ns.foldl stepS l ↔ ∃ s0 ∈ l, ∃ t, t ∈ ns.foldl stepS [[]] ∧ s = s0 ++ t := by
  induction ns with
  | nil => intro l s; simp
  | cons n ns ih =>
    intro l s
    rw [List.foldl_cons, List.foldl_cons, ih]
    constructor
    · rintro ⟨s0, h0, t, ht, rfl⟩
      unfold stepS at h0
      rw [List.mem_flatMap] at h0
      obtain ⟨u, hu, h0⟩ := h0
      simp at h0
      rcases h0 with rfl | rfl
      · exact ⟨s0, hu, t, (ih _ _).mpr ⟨[], by simp [stepS], t, ht, rfl⟩, rfl⟩
      · exact ⟨u, hu, n :: t, (ih _ _).mpr ⟨[n], by simp [stepS], t, ht, rfl⟩, by simp⟩
    · rintro ⟨s0, h0, t, ht, rfl⟩
      rw [ih] at ht
      obtain ⟨s1, h1, t1, ht1, rfl⟩ := ht
      simp [stepS] at h1
      rcases h1 with rfl | rfl
      · exact ⟨s0, by unfold stepS; rw [List.mem_flatMap]; exact ⟨s0, h0, by simp⟩, t1, ht1, by simp⟩
      · exact ⟨s0 ++ [n], by unfold stepS; rw [List.mem_flatMap]; exact ⟨s0, h0, by simp⟩, t1, ht1, by simp⟩
theorem mem_states_cons (n : Str) (ns : List Str) (s : List Str) : s ∈ statesL (n :: ns) ↔ s ∈ statesL ns ∨ ∃ t ∈ statesL ns, s = n :: t := by
  unfold statesL
  rw [List.foldl_cons, mem_fold]
  constructor
  · rintro ⟨s0, h0, t, ht, rfl⟩
    simp [stepS] at h0
    rcases h0 with rfl | rfl
    · exact .inl ht
    · exact .inr ⟨t, ht, rfl⟩
  · rintro (h | ⟨t, ht, rfl⟩)
    · exact ⟨[], by simp [stepS], s, h, rfl⟩
    · exact ⟨[n], by simp [stepS], t, ht, rfl⟩
theorem filter_mem (p : Str → Bool) : ∀ ns : List Str, ns.filter p ∈ statesL ns
  | [] => by simp [statesL]
  | n :: ns => by
    rw [mem_states_cons, List.filter_cons]
    split
    · exact .inr ⟨_, filter_mem p ns, rfl⟩
    · exact .inl (filter_mem p ns)
theorem states_sub : ∀ {ns s : List Str}, s ∈ statesL ns → ∀ x ∈ s, x ∈ ns
  | [], s, h, x, hx => by
    simp [statesL] at h
    subst h
    simp at hx
  | n :: ns, s, h, x, hx => by
    rw [mem_states_cons] at h
    rcases h with h | ⟨t, ht, rfl⟩
    · exact List.mem_cons_of_mem _ (states_sub h x hx)
    · rcases List.mem_cons.mp hx with rfl | hx
      · exact List.mem_cons_self
      · exact List.mem_cons_of_mem _ (states_sub ht x hx)
theorem states_fix : ∀ {ns s : List Str}, ns.Nodup → s ∈ statesL ns → s = ns.filter fun x => decide (x ∈ s)
  | [], s, _, h => by
    simp [statesL] at h
    subst h
    rfl
  | n :: ns, s, hn, h => by
    rw [List.nodup_cons] at hn
    rw [mem_states_cons] at h
    rcases h with h | ⟨t, ht, rfl⟩
    · have hns : n ∉ s := fun z => hn.1 (states_sub h n z)
      rw [List.filter_cons, if_neg (by simpa using hns)]
      exact states_fix hn.2 h
    · rw [List.filter_cons, if_pos (by simp)]
      have e := states_fix hn.2 ht
      have e2 : (ns.filter fun x => decide (x ∈ n :: t)) = ns.filter fun x => decide (x ∈ t) := by
        refine List.filter_congr fun x hx => ?_
        have : x ≠ n := fun z => hn.1 (z ▸ hx)
        simp [this]
      rw [e2, ← e]
theorem states_nodup : ∀ {ns : List Str}, ns.Nodup → (statesL ns).Nodup := by
  have key : ∀ (ns : List Str) (l : List (List Str)), ns.Nodup → l.Nodup → (∀ s ∈ l, ∀ x ∈ s, x ∉ ns) → (ns.foldl stepS l).Nodup := by
    intro ns
    induction ns with
    | nil => intro l _ h _; exact h
    | cons n ns ih =>
      intro l hn hl hd
      rw [List.nodup_cons] at hn
      rw [List.foldl_cons]
      refine ih _ hn.2 ?_ ?_
      · unfold stepS
        rw [List.nodup_iff_pairwise_ne, List.pairwise_flatMap]
        refine ⟨fun s hs => ?_, ?_⟩
        · simp
        · refine List.Pairwise.imp_of_mem (fun {a b} ha hb hne => ?_) hl
          intro x hx y hy
          simp at hx hy
          have na : n ∉ a := fun z => hd a ha n z List.mem_cons_self
          have nb : n ∉ b := fun z => hd b hb n z List.mem_cons_self
          rcases hx with rfl | rfl <;> rcases hy with rfl | rfl
          · exact hne
          · rintro rfl
            exact na (by simp)
          · intro e
            exact nb (by rw [← e]; simp)
          · intro e
            exact hne (List.append_cancel_right e)
      · intro s hs x hx
        unfold stepS at hs
        rw [List.mem_flatMap] at hs
        obtain ⟨u, hu, hs⟩ := hs
        simp at hs
        rcases hs with rfl | rfl
        · exact fun z => hd s hu x hx (List.mem_cons_of_mem _ z)
        · rcases List.mem_append.mp hx with hx | hx
          · exact fun z => hd u hu x hx (List.mem_cons_of_mem _ z)
          · rw [List.mem_singleton] at hx
            subst hx
            exact hn.1
  intro ns hn
  exact key ns [[]] hn (by simp) (by simp)
theorem seen_nd {v : Wd} (h : NmsOk v) : v.seen.Nodup := (List.nodup_append.mp h.nd).1
theorem stOf_iff {v : Wd} (h : NmsOk v) {s : List Str} : StOf v s ↔ s ∈ statesL v.seen := ⟨fun e => by rw [show s = _ from e]; exact filter_mem _ _, fun hs => states_fix (seen_nd h) hs⟩
theorem seen_str {v : Wd} (h : NmsOk v) : ∀ x ∈ v.seen, PyData.strOk x = true := fun x hx => str_ok (h.nm x (List.mem_append_left _ hx))
theorem state_str {v : Wd} (h : NmsOk v) {s : List Str} (hs : s ∈ statesL v.seen) : ∀ x ∈ s, PyData.strOk x = true := fun x hx => seen_str h x (states_sub hs x hx)
/-! results -/
theorem resA_mem {v : Wd} {st : List Str} {a : Act} {r : Nat × List Str × List Str} : r ∈ resA v st a ↔ ∃ o, a.parts[r.1]? = some o ∧ r.2.1 ∈ subT (takes v o) ∧ r.2.2 = behindA v st o r.2.1 := by
  unfold resA resO
  rw [List.mem_flatMap]
  constructor
  · rintro ⟨k, hk, hr⟩
    obtain ⟨g, hg, rfl⟩ := List.mem_map.mp hr
    have hk := List.mem_range.mp hk
    have e : a.parts.getD k [] = a.parts[k] := by rw [List.getD_eq_getElem?_getD, List.getElem?_eq_getElem hk]; rfl
    rw [e] at hg
    exact ⟨a.parts[k], List.getElem?_eq_getElem hk, hg, by rw [e]⟩
  · rintro ⟨o, ho, hg, hb⟩
    have hk := (List.getElem?_eq_some_iff.mp ho).1
    have e : a.parts.getD r.1 [] = o := by rw [List.getD_eq_getElem?_getD, ho]; rfl
    refine ⟨r.1, List.mem_range.mpr hk, List.mem_map.mpr ⟨r.2.1, by rw [e]; exact hg, ?_⟩⟩
    rw [e, ← hb]
theorem resA_len {v : Wd} (hw : NmsOk v) (st : List Str) {a : Act} (ha : a.parts.length ≤ 16) : (resA v st a).length ≤ 288 := by
  have h2 : ∀ o k, (resO v st o k).length ≤ 18 := by
    intro o k
    unfold resO
    rw [List.length_map]
    have h3 := subT_len (takes v o)
    have h4 : (takes v o).length ≤ v.piles.length := List.length_filter_le _ _
    have h5 := hw.pl
    have h6 : 3 ^ (takes v o).length ≤ 3 ^ 2 := Nat.pow_le_pow_right (by decide) (by omega)
    omega
  have h : ∀ n, ((List.range n).flatMap fun k => resO v st (a.parts.getD k []) k).length ≤ n * 18 := by
    intro n
    induction n with
    | zero => simp
    | succ n ih =>
      rw [List.range_succ, List.flatMap_append, List.length_append]
      simp only [List.flatMap_cons, List.flatMap_nil, List.append_nil]
      have := h2 (a.parts.getD n []) n
      omega
  have := h a.parts.length
  unfold resA
  omega
theorem goal_in {v : Wd} {g : Tr} {s : List Str} (h : s ∈ statesL v.seen) : decide (s ∈ goalsL v g) = g.holds s := by
  unfold goalsL
  by_cases e : g.holds s = true
  · rw [e, decide_eq_true]
    exact List.mem_filter.mpr ⟨h, e⟩
  · rw [Bool.eq_false_iff.mpr e, decide_eq_false]
    exact fun z => e (List.mem_filter.mp z).2
theorem goals_str {v : Wd} (hw : NmsOk v) (g : Tr) : ∀ s ∈ goalsL v g, ∀ z ∈ s, PyData.strOk z = true := fun s hs => state_str hw (List.mem_filter.mp hs).1
theorem ok_AE (T : Tx K mg) (D : Md K (cl K "Game") "added_edges" "Game.added_edges" s_Game_added_edges) (mR : Met P w K mg base 11 (cl K "World") "results" (S_results K).sp []) (mSh : Met P w K mg base 11 (cl K "World") "shifts" (S_shifts K).sp []) : Met P w K mg base 12 (cl K "Game") "added_edges" (S_AE K).sp [] := by
  refine met_sym T.cGame D sc_Game_added_edges (fun _ _ _ _ _ _ us hl => match us, hl with | [_, _, _, _, _], _ => rfl) (fun a ds L M h => by obtain ⟨rfl, _⟩ := h; rfl) (fun f cdv A outer s H E hr => ⟨_, pss_cons (ps_set (i := 5) sc_Game_added_edges.nd rfl (Or.inl rfl) (pe_lst pa_nil)) (pss_cons (ps_for PassesOwn.never rfl (pi_list (pe_mt mR hr (by omega) (pv 1) (pa_cons (pv 3) (pa_cons (pv 4) pa_nil)))) (pg_tup rfl (pgs_cons (pg_name (i := 6) sc_Game_added_edges.nd rfl (Or.inl rfl)) (pgs_cons (pg_name (i := 7) sc_Game_added_edges.nd rfl (Or.inl rfl)) (pgs_cons (pg_name (i := 8) sc_Game_added_edges.nd rfl (Or.inl rfl)) pgs_nil)))) (pss_cons (ps_asg (pe_mt mSh hr (by omega) (pv 1) (pa_cons (pv 3) (pa_cons (pv 4) (pa_cons (pv 6) pa_nil)))) (pg_tup rfl (pgs_cons (pg_name (i := 9) sc_Game_added_edges.nd rfl (Or.inl rfl)) (pgs_cons (pg_name (i := 10) sc_Game_added_edges.nd rfl (Or.inl rfl)) pgs_nil)))) (pss_cons (ps_expr (pe_bm PySem.F.plainAttrs_list PySem.F.slot_list_append PySem.F.type_list_append mt_append (pv 5) (pa_cons (pe_callB call_len_seq (by rfl) T.f_len (by decide +kernel) (pa_cons (pe_fld (pv 0) rfl) pa_nil)) pa_nil))) (pss_one (ps_expr (pe_bm PySem.F.plainAttrs_list PySem.F.slot_list_append PySem.F.type_list_append mt_append (pe_fld (pv 0) rfl) (pa_cons (pe_tup (pa_cons (pe_ifExp (pt_cmpR (op_inD (hu65 hr)) (pv 8) (pv 2) rfl) pe_non (pv 8)) (pa_cons (pv 9) (pa_cons (pv 10) (pa_cons (pv 6) (pa_cons (pv 7) pa_nil)))))) pa_nil))))))) (pss_one (ps_ret (pv 5)))), fun (x, fs, e, es, v, g, st, n, a) ds L M h => ?_⟩)
  obtain ⟨rfl, hx, hfe, he, hne, hw, hs, ha, hf, hlen, hL⟩ := h
  have hA : ActIn v a := hw.act _ (tget_mem ha)
  have hrl := resA_len hw.nms st hA.ok.len
  walk_at "sy"
  refine e_lstO ?_
  walk_at "sy"
  refine ⟨by simp, fun fo hfo => ?_⟩
  have hfe2 : fo ≠ e := by
    rintro rfl
    rw [he] at hfo
    cases hfo
  have hfx : fo ≠ x := by
    rintro rfl
    rw [hx] at hfo
    cases hfo
  walk_at "sy"
  refine ⟨(v, st, n, a), ⟨rfl, hw, ha, hL, hs, hf⟩, ?_⟩
  rintro d M2 ⟨rfl, rfl⟩
  refine ⟨_, rfl, ?_⟩
  refine ⟨fun i Γ' M' => (∃ u6 u7 u8 u9 u10, Γ' = [some (.adr x), some (dWd K v), some (.lst (dSts (goalsL v g))), some (.tup (dStrs st)), some (.s n), some (.adr fo), u6, u7, u8, u9, u10]) ∧ M' = mset (mset M e (.lst ((es ++ ((resA v st a).take i).map (edgeOf v g st a)).map dEdge))) fo (dNums (List.range' es.length i)), ⟨⟨none, none, none, none, none, rfl⟩, ?_⟩, ?_, ?_⟩
  · show mset M fo (.lst []) = _
    have : mset M e (.lst ((es ++ ((resA v st a).take 0).map (edgeOf v g st a)).map dEdge)) = M := by
      funext b
      unfold mset
      split
      · rename_i h
        rw [h, he]
        simp
      · rfl
    rw [this]
    rfl
  · rintro i d Γ' M' hd ⟨⟨u6, u7, u8, u9, u10, rfl⟩, rfl⟩
    obtain ⟨r, hr', rfl⟩ := at_map hd
    have hr' : (resA v st a)[i]? = some r := hr'
    have hi : i < (resA v st a).length := (List.getElem?_eq_some_iff.mp hr').1
    obtain ⟨o, ho, hg1, hb⟩ := resA_mem.mp (List.mem_of_getElem? hr')
    have hbs : r.2.2 ∈ statesL v.seen := by rw [hb]; exact filter_mem _ _
    have hgd : a.parts.getD r.1 [] = o := by rw [List.getD_eq_getElem?_getD, ho]; rfl
    refine g_tup ⟨_, rfl, rfl, ?_⟩
    walk_at "sy"
    refine ⟨(v, st, n, a, r.1, o), ⟨rfl, hw, ha, hL, hs, hf, ho⟩, ?_⟩
    rintro d M2 ⟨rfl, rfl⟩
    refine g_tup ⟨_, rfl, rfl, ?_⟩
    walk_at "sy"
    refine ⟨_, vw_adr mset_same, ?_⟩
    walk_at "sy"
    refine ⟨_, _, .adr e, vw_adr (by rw [mset_ne hfx.symm, mset_ne hne.symm]; exact hx), T.cGame, T.n_edges, hfe, ?_⟩
    walk_at "sy"
    refine c_len (.inl (vw_adr (by rw [mset_ne hfe2.symm]; exact mset_same))) ?_
    walk_at "sy"
    have hel : (((es ++ ((resA v st a).take i).map (edgeOf v g st a)).map dEdge).length : Nat) = es.length + i := by
      rw [List.length_map, List.length_append, List.length_map, List.length_take]
      omega
    rw [hel]
    refine m_app mset_same (by rw [List.length_map, List.length_range']; omega) ?_
    rw [mset_mset]
    walk_at "sy"
    refine ⟨_, _, .adr e, vw_adr (by rw [mset_ne hfx.symm, mset_ne hne.symm]; exact hx), T.cGame, T.n_edges, hfe, ?_⟩
    refine ⟨_, vw_adr (by rw [mset_ne hfe2.symm]; exact mset_same), ?_⟩
    walk_at "sy"
    refine o_inSts rfl (state_str hw.nms hbs) (goals_str hw.nms g) ?_
    rw [goal_in hbs]
    refine ⟨_, rfl, ?_⟩
    have fin : ∀ tg, dTgt (if g.holds r.2.2 then none else some r.2.2) = tg → Mt L (mset (mset M e (.lst ((es ++ ((resA v st a).take i).map (edgeOf v g st a)).map dEdge))) fo (.lst (((List.range' es.length i).map fun k => Dt.i ((k : Nat) : Int)) ++ [.i ((es.length + i : Nat) : Int)]))) rAppend (.adr e) [.tup [tg, .tup (dStrs (v.counters.filter (takenA o st))), .tup (dStrs (v.counters.filter (addedA o))), .i (r.1 : Nat), .tup (dStrs r.2.1)]] fun _ M' =>
        (∃ u6 u7 u8 u9 u10, ([some (.adr x), some (dWd K v), some (.lst (dSts (goalsL v g))), some (.tup (dStrs st)), some (.s n), some (.adr fo), some (.i (r.1 : Nat)), some (.tup (dStrs r.2.1)), some (.tup (dStrs r.2.2)), some (.tup (dStrs (v.counters.filter (takenA o st)))), some (.tup (dStrs (v.counters.filter (addedA o))))] : Gm) = [some (.adr x), some (dWd K v), some (.lst (dSts (goalsL v g))), some (.tup (dStrs st)), some (.s n), some (.adr fo), u6, u7, u8, u9, u10]) ∧ M' = mset (mset M e (.lst ((es ++ ((resA v st a).take (i + 1)).map (edgeOf v g st a)).map dEdge))) fo (dNums (List.range' es.length (i + 1))) := by
      rintro tg rfl
      refine m_app (by rw [mset_ne hfe2.symm]; exact mset_same) (by rw [hel]; omega) ⟨⟨_, _, _, _, _, rfl⟩, ?_⟩
      rw [mset_comm hfe2, mset_mset, take_one hr']
      congr 1
      · congr 1
        rw [List.map_append (l₁ := (resA v st a).take i), ← List.append_assoc, List.map_append (l₂ := [r].map _)]
        have e1 : edgeOf v g st a r = ⟨if g.holds r.2.2 then none else some r.2.2, v.counters.filter (takenA o st), v.counters.filter (addedA o), r.1, r.2.1⟩ := by unfold edgeOf; rw [hgd]
        rw [List.map_singleton, List.map_singleton, e1]
        rfl
      · unfold dNums
        rw [List.range'_concat, List.map_append, Nat.one_mul]
        rfl
    refine iB (fun e1 => ?_) (fun e1 => ?_)
    · walk_at "sy"
      refine ⟨by simp, ?_⟩
      walk_at "sy"
      exact fin .non (by rw [e1]; rfl)
    · walk_at "sy"
      refine ⟨by simp, ?_⟩
      walk_at "sy"
      exact fin (.tup (dStrs r.2.2)) (by rw [e1]; rfl)
  · rintro Γ' M' ⟨⟨u6, u7, u8, u9, u10, rfl⟩, rfl⟩
    refine r_ret (e_frz ?_)
    walk_at "sy"
    refine ⟨_, _, rfl, mset_same, ?_, ?_⟩
    · rw [mdel_mset (by rw [mset_ne hfe2]; exact hfo), List.length_map, List.take_length]
      rfl
    · rw [List.length_map]
      unfold edgesA
      rw [List.length_map]
end
end K85
set_option maxRecDepth 100000
set_option maxHeartbeats 4000000
/-! the game made -/
namespace K85
open PySem L2
open C8 (Cal Met Mak pe_c pe_mk pe_mt pe_mt0 pe_gc)
local macro_rules | `(tactic| walk_at "sy1") => `(tactic| with_reducible first
  | refine r_seq ?_ | refine r_if ?_ | refine r_ret ?_ | refine r_retN ?_ | refine r_asg ?_ | refine r_drop ?_ | refine r_brk ?_ | refine r_cont ?_ | refine r_fld ?_ | refine r_dput ?_ | refine r_for ?_ | refine r_next ?_
  | refine g_name ?_ | refine g_tup ?_ | refine g_unl ?_ | refine g_cons ?_ | refine g_nil ?_
  | refine t_test ?_ | refine t_B ?_ | refine t_not ?_ | refine t_and ?_ | refine t_or ?_ | refine t_yes ?_
  | refine e_var rfl ?_ | refine e_int ?_ | refine e_str ?_ | refine e_bl ?_ | refine e_non ?_ | refine e_ref ?_ | refine e_op ?_ | refine e_un ?_ | refine e_andV ?_ | refine e_orV ?_ | refine e_notV ?_ | refine e_if ?_ | refine e_isN ?_ | refine e_notN ?_
  | refine e_tup ?_ | refine e_fld ?_ | refine e_call0 ?_ | refine e_meth0 ?_ | refine e_cb ?_ | refine e_bm ?_ | refine e_dget ?_ | refine e_dget1 ?_ | refine e_din ?_ | refine e_dnotin ?_ | refine e_chain ?_ | refine e_fcall ?_ | refine e_sm ?_
  | refine a_nil ?_ | refine a_cons ?_ | refine i_list ?_ | refine i_tup ?_ | refine i_seq ?_ | refine i_rng1 ?_ | refine i_str ?_
  | refine s_none ?_ | refine s_some ?_ | refine e_slL ?_ | refine e_slT ?_
  | refine o_II ?_ | refine o_IB ?_)
local macro_rules | `(tactic| walk_at "sy") => `(tactic| repeat (first | walk_at "sy1" | refine ⟨_, rfl, ?_⟩ | refine ⟨(rfl : List.lookup _ _ = none), ?_⟩))
local macro_rules | `(tactic| walk_at "eqF") => `(tactic| (refine o_eq rfl rfl rfl ?_; walk_at "sy"; refine iF (by decide +kernel) ?_; walk_at "sy"))
local macro_rules | `(tactic| walk_at "eqT") => `(tactic| (refine o_eq rfl rfl rfl ?_; walk_at "sy"; refine iT (by decide +kernel) ?_; walk_at "sy"))
local macro_rules | `(tactic| walk_at "pureEnd") => `(tactic| (rintro d M' ⟨rfl, rfl⟩))
structure Gme where
  order : List (List Str)
  tallies : List Str
  edges : List Edge
  choices : List (List Str × List (Str × List Nat))
def dCho (p : Str × List Nat) : Dt := .tup [.s p.1, dNums p.2]
def dChs (l : List (Str × List Nat)) : Dt := .lst (l.map dCho)
def kCh (ch : List (List Str × List (Str × List Nat))) : List (List Str × Dt) := ch.map fun p => (p.1, dChs p.2)
def fGameT (o t e c : Dt) : List (Str × Dt) := [("order", o), ("tallies", t), ("edges", e), ("choices", c)]
def fGame (G : Gme) : List (Str × Dt) := fGameT (.lst (dSts G.order)) (.lst (dStrs G.tallies)) (.lst (G.edges.map dEdge)) (.dT (kCh G.choices))
def dGame (K : PySem.W.Frag) (G : Gme) : Dt := .ins (cl K "Game") (fGame G)
def acts (v : Wd) (st : List Str) : List (Str × Act) := v.table.filter fun p => fitsA v st p.2
def orderL (v : Wd) (g : Tr) : List (List Str) := (statesL v.seen).filter fun s => !g.holds s
def GoodC (v : Wd) (g : Tr) (es : List Edge) (st : List Str) (q : Str × List Nat) : Prop := ∃ a, tget v.table q.1 = some a ∧ fitsA v st a = true ∧ q.2.map (fun k => es[k]?) = (edgesA v g st a).map some
structure Built (v : Wd) (g : Tr) (es : List Edge) (ch : List (List Str × List (Str × List Nat))) : Prop where
  nm : ∀ p ∈ ch, p.2.map (·.1) = (acts v p.1).map (·.1)
  good : ∀ p ∈ ch, ∀ q ∈ p.2, GoodC v g es p.1 q
  tg : ∀ e ∈ es, ∀ t, e.tgt = some t → t ∈ orderL v g
structure GmOk (v : Wd) (g : Tr) (G : Gme) : Prop where
  order : G.order = orderL v g
  tallies : G.tallies = v.counters
  built : Built v g G.edges G.choices
  keys : G.choices.map (·.1) = G.order
  len : G.edges.length ≤ 50000
/-- the empty tuple that stands behind the top -/
def ETup (K : PySem.W.Frag) (T : Addr) : Prop := ∃ (o : Obj) (its : Array Value) (n : Nat), K.lookup T = some o ∧ o.cls = .type "tuple" ∧ o.data = .seq its n ∧ its.toList = []
theorem o_notInE {K : PySem.W.Frag} {L : Lk} {M : Mm} {P : Dt → Mm → Prop} {T : Addr} {x : Str} (h : ETup K T) (k : P (.b true) M) : Op L M (rIn K true) (.s x) (.adr T) P := fun H0 H v w Q s rx ry q => by
  unfold Rep at rx ry
  subst rx ry
  obtain ⟨o, its, n, h1, h2, h3, h4⟩ := h
  refine ⟨T, [], rfl, .inr (.inr ⟨o, its, n, h1, h2, h3, ?_, ?_⟩), rfl, rfl, q _ (.b true) M H0 H (Same.refl _) s (by unfold Rep; rfl) k⟩
  · rw [← Array.length_toList, h4]
    exact Nat.zero_le _
  · rw [h4]
    exact .nil
abbrev S_Ginit (K : PySem.W.Frag) (T : Addr) : FS := ⟨Addr × Wd × Tr × Tr, fun a ds L M => ds = [.adr a.1, dTask K a.2.1 a.2.2.1 a.2.2.2, .adr T] ∧ M a.1 = some (.ins (cl K "Game") []) ∧ WdOk a.2.1 ∧ a.2.2.2.depth ≤ 5 ∧ ∀ b, L b = none,
  fun a M d M' => d = .non ∧ ∃ G, GmOk a.2.1 a.2.2.2 G ∧ M' = mset M a.1 (dGame K G)⟩
section
variable {P : Program} {w : World} {K : PySem.W.Frag} {mg : Str → Option Value} {base : Heap}
theorem get_more {es more : List Edge} {q : List Nat} {l : List Edge} (h : q.map (fun k => es[k]?) = l.map some) : q.map (fun k => (es ++ more)[k]?) = l.map some := by
  rw [← h]
  refine List.map_congr_left fun k hk => ?_
  have : es[k]? ∈ l.map some := by rw [← h]; exact List.mem_map.mpr ⟨k, hk, rfl⟩
  obtain ⟨e, _, e2⟩ := List.mem_map.mp this
  have hlt := (List.getElem?_eq_some_iff.mp e2.symm).1
  exact List.getElem?_append_left hlt
theorem get_new (es : List Edge) : ∀ new : List Edge, (List.range' es.length new.length).map (fun k => (es ++ new)[k]?) = new.map some := by
  intro new
  refine List.ext_getElem (by simp) fun i h1 h2 => ?_
  simp only [List.length_map, List.length_range'] at h1
  simp only [List.getElem_map, List.getElem_range', Nat.one_mul]
  rw [List.getElem?_append_right (by omega), Nat.add_sub_cancel_left, List.getElem?_eq_getElem h1]
theorem good_more {v : Wd} {g : Tr} {es more : List Edge} {st : List Str} {q : Str × List Nat} (h : GoodC v g es st q) : GoodC v g (es ++ more) st q := by
  obtain ⟨a, h1, h2, h3⟩ := h
  exact ⟨a, h1, h2, get_more h3⟩
theorem edges_tg {v : Wd} {g : Tr} {st : List Str} {a : Act} : ∀ e ∈ edgesA v g st a, ∀ t, e.tgt = some t → t ∈ orderL v g := by
  intro e he t ht
  obtain ⟨r, hr, rfl⟩ := List.mem_map.mp he
  obtain ⟨o, _, _, hb⟩ := resA_mem.mp hr
  unfold edgeOf at ht
  by_cases hg : g.holds r.2.2 = true
  · simp only [hg, if_true] at ht
    cases ht
  · rw [Bool.not_eq_true] at hg
    simp only [hg, Bool.false_eq_true, if_false] at ht
    cases ht
    refine List.mem_filter.mpr ⟨?_, by rw [hg]; rfl⟩
    rw [hb]
    exact filter_mem _ _
theorem Built.more {v : Wd} {g : Tr} {es : List Edge} {ch : List (List Str × List (Str × List Nat))} (h : Built v g es ch) (st : List Str) (a : Act) : Built v g (es ++ edgesA v g st a) ch :=
  ⟨h.nm, fun p hp q hq => good_more (h.good p hp q hq), fun e he t ht => by
    rcases List.mem_append.mp he with he | he
    · exact h.tg e he t ht
    · exact edges_tg e he t ht⟩
theorem ok_Ginit (T : Tx K mg) {E0 : Addr} (hE : ETup K E0) (D : Mi K mg "Game" (cl K "Game") "Game.__init__" s_Game___init__ []) (mB : Met P w K mg base 8 (cl K "Task") "base" (S_base K).sp []) (mG : Met P w K mg base 8 (cl K "Task") "goals" (S_goals K).sp []) (mS : Met P w K mg base 2 (cl K "World") "states" (S_states K).sp []) (mC : Met P w K mg base 1 (cl K "World") "counters" (S_counters K).sp [])
    (mP : Met P w K mg base 10 (cl K "World") "possible" (S_possible K).sp []) (mAE : Met P w K mg base 12 (cl K "Game") "added_edges" (S_AE K).sp []) : Mak P w K mg base 13 "Game" (cl K "Game") (S_Ginit K E0).sp [] := by
  refine mak_sym D sc_Game___init__ (fun _ _ _ _ _ _ us hl => match us, hl with | [_, _, _], _ => rfl) (fun a ds L M h => by obtain ⟨rfl, _⟩ := h; rfl) (fun f cdv A outer s H E hr => ⟨_, pss_cons (ps_set (i := 3) sc_Game___init__.nd rfl (Or.inl rfl) (pe_mt0 mB hr (by omega) (pv 1))) (pss_cons (ps_set (i := 4) sc_Game___init__.nd rfl (Or.inr rfl) (pe_mt0 mG hr (by omega) (pv 1))) (pss_cons (ps_fld (pv 0) (pe_lc (own := [("state", 5)]) rfl sc_Game___init__.nd (pi_list (pe_mt0 mS hr (by omega) (pv 3))) (blkOk_by (own := [("state", 5)]) (N := ["self", "task", "without", "world", "reached", "state", "action"]) (sc := defScope s_Game___init__) (by decide +kernel)) (fun _ _ _ _ _ => (pg_name (i := 5) sc_Game___init__.nd rfl (Or.inl rfl))) (fun _ _ _ _ _ => (pts_one (pt_cmpR (show OpR _ _ (rNotInD K) from (op_notInD (hu65 hr))) (pv 5) (pv 4) rfl))) (fun _ _ _ _ _ => (pv 5))) rfl) (pss_cons (ps_fld (pv 0) (pe_mt0 mC hr (by omega) (pv 3)) rfl) (pss_cons (ps_fld (pv 0) (pe_lst pa_nil) rfl) (pss_cons (ps_fld (pv 0) pe_dnewT rfl) (pss_one (ps_for PassesOwn.never rfl (pi_list (pe_fld (pv 0) rfl)) (pg_name (i := 5) sc_Game___init__.nd rfl (Or.inl rfl)) (pss_cons (ps_dput (hu_of hr) (pe_fld (pv 0) rfl) (pv 5) (pe_lst pa_nil) rfl) (pss_one (ps_for PassesOwn.never rfl (pi_list (pe_mt mP hr (by omega) (pv 3) (pa_cons (pv 5) pa_nil))) (pg_name (i := 6) sc_Game___init__.nd rfl (Or.inl rfl)) (pss_one (ps_if (pt_cmpR op_notIn_seq (pv 6) (pv 2) rfl) (pss_one (ps_expr (pe_bm PySem.F.plainAttrs_list PySem.F.slot_list_append PySem.F.type_list_append mt_append (pe_dget (hu_of hr) (pe_fld (pv 0) rfl) (pv 5) (fun _ _ => rfl)) (pa_cons (pe_tup (pa_cons (pv 6) (pa_cons (pe_mt mAE hr (by omega) (pv 0) (pa_cons (pv 3) (pa_cons (pv 4) (pa_cons (pv 5) (pa_cons (pv 6) pa_nil))))) pa_nil))) pa_nil)))) pss_nil)))))))))))), fun (x, v, t, g) ds L M h => ?_⟩)
  obtain ⟨rfl, hM, hw, hg, hL⟩ := h
  have hM : M x = some (.ins (cl K "Game") []) := hM
  have hw : WdOk v := hw
  have hL : ∀ b, L b = none := hL
  have hsl := states_len hw.nms
  have hol : (orderL v g).length ≤ 16 := Nat.le_trans (List.length_filter_le _ _) hsl
  refine Run.post ?_
  walk_at "sy"
  refine ⟨(v, t, g), ⟨rfl, hw, hL⟩, ?_⟩
  rintro d M2 ⟨rfl, rfl⟩
  walk_at "sy"
  refine ⟨(v, t, g), ⟨rfl, hw.nms, hg⟩, ?_⟩
  rintro d M2 ⟨rfl, rfl⟩
  walk_at "sy"
  refine e_lcM (α := List Str) (wo_name (by decide)) ?_
  walk_at "sy"
  refine ⟨v, ⟨⟨_, _, rfl, rfl⟩, hw.nms⟩, ?_⟩
  rintro d M2 ⟨rfl, rfl⟩
  refine ⟨_, rfl, ?_⟩
  refine ⟨statesL v.seen, fun s => .tup (dStrs s), fun s => !g.holds s, fun s => .tup (dStrs s), rfl, by omega, fun st hs => ?_, ?_⟩
  · intro M' l
    walk_at "sy"
    refine ⟨rfl, ?_⟩
    walk_at "sy"
    refine o_notInSts rfl (state_str hw.nms hs) (goals_str hw.nms g) ?_
    rw [goal_in hs]
    refine ⟨_, rfl, rfl, rfl, fun _ => ?_⟩
    walk_at "sy"
    exact ⟨rfl, rfl⟩
  change Ev L _ M _ _
  walk_at "sy"
  refine ⟨x, _, [], rfl, hM, T.cGame, T.n_order, by simp, ?_⟩
  walk_at "sy"
  refine ⟨v, ⟨⟨_, _, rfl, rfl⟩, hw.nms⟩, ?_⟩
  rintro d M2 ⟨rfl, rfl⟩
  walk_at "sy"
  refine ⟨x, _, _, rfl, mset_same, T.cGame, T.n_tallies, putD_lt (m := 999) (by simp), ?_⟩
  rw [mset_mset]
  walk_at "sy"
  refine e_lstO ?_
  walk_at "sy"
  refine ⟨by simp, fun e hen => ?_⟩
  have hex : e ≠ x := by
    rintro rfl
    rw [mset_same] at hen
    cases hen
  have heM : M e = none := by rw [mset_ne hex] at hen; exact hen
  walk_at "sy"
  refine ⟨x, _, _, rfl, by rw [mset_ne hex.symm]; exact mset_same, T.cGame, T.n_edges, putD_lt (putD_lt (m := 998) (by simp)), ?_⟩
  rw [mset_comm hex, mset_mset]
  walk_at "sy"
  refine e_dnewT fun c hcn => ?_
  have hce : c ≠ e := by
    rintro rfl
    rw [mset_same] at hcn
    cases hcn
  have hcx : c ≠ x := by
    rintro rfl
    rw [mset_ne hce, mset_same] at hcn
    cases hcn
  have hcM : M c = none := by rw [mset_ne hce, mset_ne hcx] at hcn; exact hcn
  walk_at "sy"
  refine ⟨x, _, _, rfl, by rw [mset_ne hcx.symm, mset_ne hex.symm]; exact mset_same, T.cGame, T.n_choices, putD_lt (putD_lt (putD_lt (m := 997) (by simp))), ?_⟩
  rw [mset_comm hcx, mset_comm hex, mset_mset]
  generalize hfs : putD "choices" (Dt.adr c) _ = fs
  have hfs : fs = fGameT (.lst (dSts (orderL v g))) (.lst (dStrs v.counters)) (.adr e) (.adr c) := by rw [← hfs]; rfl
  subst hfs
  have lk : ∀ {f : Str} {d : Dt}, (fGameT (.lst (dSts (orderL v g))) (.lst (dStrs v.counters)) (.adr e) (.adr c)).lookup f = some d → True := fun _ => True.intro
  let MS : List Edge → List (List Str × Dt) → Mm := fun es kc => mset (mset (mset M x (.ins (cl K "Game") (fGameT (.lst (dSts (orderL v g))) (.lst (dStrs v.counters)) (.adr e) (.adr c)))) e (.lst (es.map dEdge))) c (.dT kc)
  have msx : ∀ es kc, MS es kc x = some (.ins (cl K "Game") (fGameT (.lst (dSts (orderL v g))) (.lst (dStrs v.counters)) (.adr e) (.adr c))) := fun es kc => by show mset _ _ _ x = _; rw [mset_ne hcx.symm, mset_ne hex.symm, mset_same]
  have mse : ∀ es kc, MS es kc e = some (.lst (es.map dEdge)) := fun es kc => by show mset _ _ _ e = _; rw [mset_ne hce.symm, mset_same]
  have msc : ∀ es kc, MS es kc c = some (.dT kc) := fun es kc => mset_same
  change Run L _ (MS [] []) _ _
  walk_at "sy"
  refine ⟨_, _, .lst (dSts (orderL v g)), vw_adr (msx _ _), T.cGame, T.n_order, rfl, ?_⟩
  refine ⟨_, rfl, ?_⟩
  refine ⟨fun i Γ' M' => ∃ u5 u6 es ch, Γ' = [some (.adr x), some (dTask K v t g), some (.adr E0), some (dWd K v), some (.lst (dSts (goalsL v g))), u5, u6] ∧ M' = MS es (kCh ch) ∧ Built v g es ch ∧ ch.map (·.1) = (orderL v g).take i ∧ es.length ≤ i * 2304, ⟨none, none, [], [], rfl, rfl, ⟨fun p hp => (by simp at hp), fun p hp => (by simp at hp), fun e he => (by simp at he)⟩, rfl, by simp⟩, ?_, ?_⟩
  · rintro i d Γ' M' hd ⟨u5, u6, es, ch, rfl, rfl, hB, hk, hel⟩
    obtain ⟨st, hst, rfl⟩ := at_map hd
    have hi : i < (orderL v g).length := (List.getElem?_eq_some_iff.mp hst).1
    have hsto : st ∈ orderL v g := List.mem_of_getElem? hst
    have hss : st ∈ statesL v.seen := (List.mem_filter.mp hsto).1
    have hso : StOf v st := (stOf_iff hw.nms).mpr hss
    have hond : (orderL v g).Nodup := (states_nodup (seen_nd hw.nms)).filter _
    have hnew : st ∉ ch.map (·.1) := by
      rw [hk]
      intro hm
      obtain ⟨j, hj, ej⟩ := List.mem_take_iff_getElem.mp hm
      have hj' : j < (orderL v g).length := by omega
      have := (List.getElem_inj (h₀ := hj') (h₁ := hi) hond).mp (by rw [ej, (List.getElem?_eq_some_iff.mp hst).2])
      omega
    have hnewk : st ∉ (kCh ch).map (·.1) := by unfold kCh; rw [List.map_map]; exact hnew
    have hcl : ch.length = i := by
      have := congrArg List.length hk
      rw [List.length_map, List.length_take] at this
      omega
    have hal : (acts v st).length ≤ 8 := Nat.le_trans (List.length_filter_le _ _) hw.len
    walk_at "sy"
    refine e_lstO ?_
    walk_at "sy"
    refine ⟨by simp, fun l hln => ?_⟩
    have hlc : l ≠ c := by
      rintro rfl
      rw [msc] at hln
      cases hln
    have hle : l ≠ e := by
      rintro rfl
      rw [mse] at hln
      cases hln
    have hlx : l ≠ x := by
      rintro rfl
      rw [msx] at hln
      cases hln
    walk_at "sy"
    refine ⟨_, _, .adr c, vw_adr (by rw [mset_ne hlx.symm]; exact msx _ _), T.cGame, T.n_choices, rfl, ?_⟩
    walk_at "sy"
    refine .inr ⟨_, _, by rw [mset_ne hlc.symm]; exact msc _ _, rfl, by unfold kCh; rw [List.length_map]; omega, ?_⟩
    rw [putA_new hnewk, mset_comm hlc]
    have eMS : ∀ kc, mset (MS es (kCh ch)) c (.dT kc) = MS es kc := fun kc => mset_mset
    rw [eMS]
    refine Run.post ?_
    walk_at "sy"
    refine ⟨(v, st), ⟨rfl, hw, hso, hL⟩, ?_⟩
    rintro d M2 ⟨rfl, rfl⟩
    refine ⟨_, rfl, ?_⟩
    refine ⟨fun j Γ' M' => ∃ u6 es cur, Γ' = [some (.adr x), some (dTask K v t g), some (.adr E0), some (dWd K v), some (.lst (dSts (goalsL v g))), some (.tup (dStrs st)), u6] ∧ M' = mset (MS es (kCh ch ++ [(st, .adr l)])) l (.lst (cur.map dCho)) ∧ Built v g es ch ∧ cur.map (·.1) = ((acts v st).take j).map (·.1) ∧ (∀ q ∈ cur, GoodC v g es st q) ∧ es.length ≤ i * 2304 + j * 288, ⟨_, es, [], rfl, rfl, hB, rfl, fun q hq => (by simp at hq), by omega⟩, ?_, ?_⟩
    · rintro j d Γ' M' hd ⟨u6, es, cur, rfl, rfl, hB, hcur, hgood, hel⟩
      obtain ⟨n, hn, rfl⟩ := dStrs_at hd
      have hn : ((acts v st).map (·.1))[j]? = some n := hn
      obtain ⟨p, hp, rfl⟩ := at_map hn
      have hpm := List.mem_of_getElem? hp
      have hpt : p ∈ v.table := (List.mem_filter.mp hpm).1
      have hpf : fitsA v st p.2 = true := (List.mem_filter.mp hpm).2
      have hj : j < (acts v st).length := (List.getElem?_eq_some_iff.mp hp).1
      have htg : tget v.table p.1 = some p.2 := tget_at hw.nd hpt
      have hlook : lookA (kCh ch ++ [(st, Dt.adr l)]) st = some (.adr l) := by
        unfold lookA
        rw [List.find?_append]
        have : (kCh ch).find? (fun kv => decide (kv.1 = st)) = none := by
          rw [List.find?_eq_none]
          intro kv hkv
          simp only [decide_eq_true_eq]
          exact fun e => hnewk (e ▸ List.mem_map.mpr ⟨kv, hkv, rfl⟩)
        rw [this]
        simp
      walk_at "sy"
      refine o_notInE hE ⟨_, rfl, iT rfl ?_⟩
      walk_at "sy"
      refine ⟨_, _, .adr c, vw_adr (by rw [mset_ne hlx.symm]; exact msx _ _), T.cGame, T.n_choices, rfl, ?_⟩
      walk_at "sy"
      refine .inr ⟨_, _, vw_adr (by rw [mset_ne hlc.symm]; exact msc _ _), rfl, _, hlook, ?_⟩
      refine ⟨_, vw_adr mset_same, ?_⟩
      walk_at "sy"
      refine ⟨_, vw_adr (by rw [mset_ne hlx.symm]; exact msx _ _), rfl, ?_⟩
      walk_at "sy"
      refine ⟨(x, _, e, es, v, g, st, p.1, p.2), ⟨rfl, by rw [mset_ne hlx.symm]; exact msx _ _, rfl, by rw [mset_ne hle.symm]; exact mse _ _, hex, hw, hso, htg, hpf, by omega, noflat0 hL⟩, ?_⟩
      rintro d M2 ⟨rfl, rfl⟩
      walk_at "sy"
      refine ⟨by simp, ?_⟩
      walk_at "sy"
      have hcl2 : cur.length ≤ 8 := by
        have := congrArg List.length hcur
        rw [List.length_map, List.length_map, List.length_take] at this
        omega
      refine m_app (ds := cur.map dCho) (by rw [mset_ne hle]; exact mset_same) (by rw [List.length_map]; omega) ?_
      have hrl : (edgesA v g st p.2).length ≤ 288 := by
        unfold edgesA
        rw [List.length_map]
        exact resA_len hw.nms st (hw.act p hpt).ok.len
      refine ⟨_, es ++ edgesA v g st p.2, cur ++ [(p.1, List.range' es.length (edgesA v g st p.2).length)], rfl, ?_, hB.more st p.2, ?_, ?_, ?_⟩
      · have e1 : ∀ (d1 : Dt) (es' : List Edge), mset (mset (mset (MS es (kCh ch ++ [(st, .adr l)])) l d1) e (.lst (es'.map dEdge))) l (.lst (cur.map dCho ++ [.tup [.s p.1, dNums (List.range' es.length (edgesA v g st p.2).length)]])) = mset (MS es' (kCh ch ++ [(st, .adr l)])) l (.lst ((cur ++ [(p.1, List.range' es.length (edgesA v g st p.2).length)]).map dCho)) := by
          intro d1 es'
          rw [mset_comm hle, mset_mset]
          have e2 : mset (MS es (kCh ch ++ [(st, .adr l)])) e (.lst (es'.map dEdge)) = MS es' (kCh ch ++ [(st, .adr l)]) := by
            show mset (mset (mset (mset M x _) e _) c _) e _ = mset (mset (mset M x _) e _) c _
            rw [mset_comm hce, mset_mset]
          rw [e2, List.map_append]
          rfl
        exact e1 _ _
      · rw [List.map_append, hcur, take_one hp, List.map_append]
        rfl
      · intro q hq
        rcases List.mem_append.mp hq with hq | hq
        · exact good_more (hgood q hq)
        · rw [List.mem_singleton] at hq
          subst hq
          exact ⟨p.2, htg, hpf, get_new _ _⟩
      · rw [List.length_append]
        omega
    · rintro Γ' M' ⟨u6, es, cur, rfl, rfl, hB, hcur, hgood, hel⟩
      have e1 : (dStrs ((v.table.filter fun p => fitsA v st p.2).map (·.1))).length = (acts v st).length := by simp [dStrs, acts]
      have hel : es.length ≤ i * 2304 + (acts v st).length * 288 := by rw [← e1]; exact hel
      have hcur : cur.map (·.1) = ((acts v st).take (acts v st).length).map (·.1) := by rw [← e1]; exact hcur
      rw [List.take_length] at hcur
      refine ⟨MS es (kCh (ch ++ [(st, cur)])), ?_, some (.tup (dStrs st)), u6, es, ch ++ [(st, cur)], rfl, rfl, ⟨?_, ?_, hB.tg⟩, ?_, by omega⟩
      · refine (VwM.last (x := c) (t := l) (by rw [mset_ne hlc.symm]; exact msc _ _) mset_same hlc).trans ?_
        refine VwM.less fun b d hb => ?_
        have hnl : b ≠ l := by
          rintro rfl
          have hb : mset (mset (mset M x _) e _) c _ b = some d := hb
          rw [mset_ne hlc, mset_ne hle, mset_ne hlx] at hb
          have hln : mset (mset (mset M x _) e _) c _ b = none := hln
          rw [mset_ne hlc, mset_ne hle, mset_ne hlx] at hln
          rw [hln] at hb
          cases hb
        have hb : mset (mset (mset M x _) e _) c (.dT (kCh (ch ++ [(st, cur)]))) b = some d := hb
        by_cases hbc : b = c
        · subst hbc
          rw [mset_same] at hb ⊢
          rw [← hb]
          unfold kCh
          rw [List.map_append]
          rfl
        · rw [mset_ne hbc] at hb ⊢
          rw [mdel_ne hnl, mset_ne hnl]
          show mset (mset (mset M x _) e _) c _ b = _
          rw [mset_ne hbc]
          exact hb
      · intro p hp
        rcases List.mem_append.mp hp with hp | hp
        · exact hB.nm p hp
        · rw [List.mem_singleton] at hp
          subst hp
          exact hcur
      · intro p hp q hq
        rcases List.mem_append.mp hp with hp | hp
        · exact hB.good p hp q hq
        · rw [List.mem_singleton] at hp
          subst hp
          exact hgood q hq
      · rw [List.map_append, hk, take_one hst]
        rfl
  · rintro Γ' M' ⟨u5, u6, es, ch, rfl, rfl, hB, hk, hel⟩
    have e1 : (dSts (orderL v g)).length = (orderL v g).length := by simp [dSts]
    have hel : es.length ≤ (orderL v g).length * 2304 := by rw [← e1]; exact hel
    rw [e1, List.take_length] at hk
    refine ⟨mset M x (dGame K ⟨orderL v g, v.counters, es, ch⟩), ?_, rfl, ⟨orderL v g, v.counters, es, ch⟩, ⟨rfl, rfl, hB, hk, by show es.length ≤ 50000; omega⟩, rfl⟩
    refine (VwM.fld (x := x) (t := e) (f := "edges") (msx _ _) rfl (mse _ _) hex).trans ?_
    refine (VwM.fld (x := x) (t := c) (f := "choices") mset_same rfl (by rw [mset_ne hcx, mdel_ne hce]; exact msc _ _) hcx).trans ?_
    refine VwM.less fun b d hb => ?_
    by_cases hbx : b = x
    · subst hbx
      rw [mset_same] at hb ⊢
      exact hb
    · rw [mset_ne hbx] at hb ⊢
      have n1 : b ≠ e := by rintro rfl; rw [heM] at hb; cases hb
      have n2 : b ≠ c := by rintro rfl; rw [hcM] at hb; cases hb
      rw [mdel_ne n2, mset_ne hbx, mdel_ne n1]
      show mset (mset (mset M x _) e _) c _ b = _
      rw [mset_ne n2, mset_ne n1, mset_ne hbx]
      exact hb
end
end K85
/-! what is won, as a set; no program in sight -/
namespace K85
open PySem
abbrev Sts := List Str → Prop
def Gme.tg (G : Gme) (at_ : Nat) : Option (List Str) := (G.edges[at_]?).bind (·.tgt)
def Gme.tk (G : Gme) (at_ : Nat) : List Str := ((G.edges[at_]?).map (·.taken)).getD []
def Gme.ad (G : Gme) (at_ : Nat) : List Str := ((G.edges[at_]?).map (·.added)).getD []
/-- an edge leads well -/
def OkE (G : Gme) (good bad : Nat → Prop) (T : Sts) (a : Nat) : Prop := good a ∨ (¬ bad a ∧ ∃ t, G.tg a = some t ∧ T t)
def Frc (G : Gme) (good bad : Nat → Prop) (T : Sts) (s : List Str) : Prop := ∃ l, (s, l) ∈ G.choices ∧ ∃ q ∈ l, ∀ a ∈ q.2, OkE G good bad T a
def Btr (G : Gme) (good bad : Nat → Prop) (c : Str) (T X : Sts) (a : Nat) : Prop := good a ∨ (¬ bad a ∧ ∃ t, G.tg a = some t ∧ (T t ∨ (c ∈ G.tk a ∧ c ∉ G.ad a ∧ X t)))
def Wrs (G : Gme) (bad : Nat → Prop) (c : Str) (a : Nat) : Prop := bad a ∨ c ∈ G.ad a
def oth (cs : List Str) (c : Str) : List Str := cs.filter fun o => !decide (o = c)
def Win (G : Gme) : Nat → (Nat → Prop) → (Nat → Prop) → List Str → Sts
  | 0, good, bad, _, s => ∀ T : Sts, (∀ s ∈ G.order, Frc G good bad T s → T s) → T s
  | n + 1, good, bad, cs, s => ∀ T : Sts, (∀ s ∈ G.order, Frc G good bad T s → T s) →
      (∀ c ∈ cs, ∀ X : Sts, (∀ s, X s → s ∈ G.order ∧ Win G n (Btr G good bad c T X) (Wrs G bad c) (oth cs c) s) → ∀ s, X s → T s) → T s
/-- a set that is closed under both steps -/
def Clo (G : Gme) (n : Nat) (good bad : Nat → Prop) (cs : List Str) (T : Sts) : Prop := (∀ s ∈ G.order, Frc G good bad T s → T s) ∧
  (∀ m, n = m + 1 → ∀ c ∈ cs, ∀ X : Sts, (∀ s, X s → s ∈ G.order ∧ Win G m (Btr G good bad c T X) (Wrs G bad c) (oth cs c) s) → ∀ s, X s → T s)
theorem win_iff {G : Gme} {n : Nat} {good bad : Nat → Prop} {cs : List Str} {s : List Str} : Win G n good bad cs s ↔ ∀ T, Clo G n good bad cs T → T s := by
  cases n with
  | zero => exact ⟨fun h T c => h T c.1, fun h T c => h T ⟨c, fun m e => nomatch e⟩⟩
  | succ n => exact ⟨fun h T c => h T c.1 (c.2 n rfl), fun h T c d => h T ⟨c, fun m e => by cases e; exact d⟩⟩
theorem Frc.mono {G : Gme} {good good' bad bad' : Nat → Prop} {T T' : Sts} {s : List Str} (hg : ∀ a, good a → good' a) (hb : ∀ a, bad' a → bad a) (hT : ∀ t, T t → T' t) (h : Frc G good bad T s) : Frc G good' bad' T' s := by
  obtain ⟨l, h1, q, h2, h3⟩ := h
  refine ⟨l, h1, q, h2, fun a ha => ?_⟩
  rcases h3 a ha with h | ⟨h, t, h4, h5⟩
  · exact .inl (hg a h)
  · exact .inr ⟨fun z => h (hb a z), t, h4, hT t h5⟩
theorem Btr.mono {G : Gme} {good good' bad bad' : Nat → Prop} {T T' X X' : Sts} {c : Str} (hg : ∀ a, good a → good' a) (hb : ∀ a, bad' a → bad a) (hT : ∀ t, T t → T' t) (hX : ∀ t, X t → X' t) : ∀ a, Btr G good bad c T X a → Btr G good' bad' c T' X' a := fun a h => by
  rcases h with h | ⟨h, t, h4, h5⟩
  · exact .inl (hg a h)
  · refine .inr ⟨fun z => h (hb a z), t, h4, ?_⟩
    rcases h5 with h5 | ⟨h5, h6, h7⟩
    · exact .inl (hT t h5)
    · exact .inr ⟨h5, h6, hX t h7⟩
theorem Wrs.mono {G : Gme} {bad bad' : Nat → Prop} {c : Str} (hb : ∀ a, bad' a → bad a) : ∀ a, Wrs G bad' c a → Wrs G bad c a := fun a h => h.elim (fun h => .inl (hb a h)) .inr
theorem win_mono {G : Gme} : ∀ {n : Nat} {good good' bad bad' : Nat → Prop} {cs : List Str}, (∀ a, good a → good' a) → (∀ a, bad' a → bad a) → ∀ s, Win G n good bad cs s → Win G n good' bad' cs s
  | 0, _, _, _, _, _, hg, hb, s, h => fun T c => h T fun s hs f => c s hs (f.mono hg hb fun _ h => h)
  | n + 1, _, _, _, _, _, hg, hb, s, h => fun T c d => h T (fun s hs f => c s hs (f.mono hg hb fun _ h => h)) fun k hk X hX => d k hk X fun s hs =>
      ⟨(hX s hs).1, win_mono (Btr.mono hg hb (fun _ h => h) fun _ h => h) (Wrs.mono hb) s (hX s hs).2⟩
/-- what is won is closed -/
theorem win_clo {G : Gme} {n : Nat} {good bad : Nat → Prop} {cs : List Str} : Clo G n good bad cs (Win G n good bad cs) := by
  constructor
  · intro s hs f
    rw [win_iff]
    intro T c
    exact c.1 s hs (f.mono (fun _ h => h) (fun _ h => h) fun t ht => (win_iff.mp ht) T c)
  · rintro m rfl c hc X hX s hs
    rw [win_iff]
    intro T k
    exact k.2 m rfl c hc X (fun s hs => ⟨(hX s hs).1, win_mono (Btr.mono (fun _ h => h) (fun _ h => h) (fun t ht => (win_iff.mp ht) T k) fun _ h => h) (fun _ h => h) s (hX s hs).2⟩) s hs
/-- enough counters' worth of depth -/
theorem win_in {G : Gme} {n : Nat} {good bad : Nat → Prop} {cs : List Str} {s : List Str} (h : Win G n good bad cs s) : s ∈ G.order := by
  refine (win_iff.mp h) (fun s => s ∈ G.order) ⟨fun s hs _ => hs, fun m _ c _ X hX s hs => (hX s hs).1⟩
end K85
set_option maxRecDepth 100000
set_option maxHeartbeats 4000000
/-! the solver: forced actions, the table closed -/
namespace K85
open PySem L2
open C8 (Cal Met Mak pe_c pe_mk pe_mt pe_mt0 pe_gc)
local macro_rules | `(tactic| walk_at "sy1") => `(tactic| with_reducible first
  | refine r_seq ?_ | refine r_if ?_ | refine r_ret ?_ | refine r_retN ?_ | refine r_asg ?_ | refine r_drop ?_ | refine r_brk ?_ | refine r_cont ?_ | refine r_fld ?_ | refine r_dput ?_ | refine r_for ?_ | refine r_next ?_
  | refine g_name ?_ | refine g_tup ?_ | refine g_unl ?_ | refine g_cons ?_ | refine g_nil ?_
  | refine t_test ?_ | refine t_B ?_ | refine t_not ?_ | refine t_and ?_ | refine t_or ?_ | refine t_yes ?_
  | refine e_var rfl ?_ | refine e_int ?_ | refine e_str ?_ | refine e_bl ?_ | refine e_non ?_ | refine e_ref ?_ | refine e_op ?_ | refine e_un ?_ | refine e_andV ?_ | refine e_orV ?_ | refine e_notV ?_ | refine e_if ?_ | refine e_isN ?_ | refine e_notN ?_
  | refine e_tup ?_ | refine e_fld ?_ | refine e_call0 ?_ | refine e_meth0 ?_ | refine e_cb ?_ | refine e_bm ?_ | refine e_dget ?_ | refine e_dget1 ?_ | refine e_din ?_ | refine e_dnotin ?_ | refine e_chain ?_ | refine e_fcall ?_ | refine e_sm ?_
  | refine a_nil ?_ | refine a_cons ?_ | refine i_list ?_ | refine i_tup ?_ | refine i_seq ?_ | refine i_rng1 ?_ | refine i_str ?_
  | refine s_none ?_ | refine s_some ?_ | refine e_slL ?_ | refine e_slT ?_
  | refine o_II ?_ | refine o_IB ?_)
local macro_rules | `(tactic| walk_at "sy") => `(tactic| repeat (first | walk_at "sy1" | refine ⟨_, rfl, ?_⟩ | refine ⟨(rfl : List.lookup _ _ = none), ?_⟩))
local macro_rules | `(tactic| walk_at "eqF") => `(tactic| (refine o_eq rfl rfl rfl ?_; walk_at "sy"; refine iF (by decide +kernel) ?_; walk_at "sy"))
local macro_rules | `(tactic| walk_at "eqT") => `(tactic| (refine o_eq rfl rfl rfl ?_; walk_at "sy"; refine iT (by decide +kernel) ?_; walk_at "sy"))
local macro_rules | `(tactic| walk_at "pureEnd") => `(tactic| (rintro d M' ⟨rfl, rfl⟩))
abbrev s_forced_action : Stmt := top 3
theorem sc_forced_action : FnScope ["game", "good", "bad", "table", "state", "action", "edges", "astray", "at"] ["game", "good", "bad", "table", "state"] (defScope s_forced_action) := ⟨rfl, rfl, rfl, by decide +kernel, rfl, by decide +kernel, by decide +kernel⟩
abbrev s_close_table : Stmt := top 4
theorem sc_close_table : FnScope ["game", "good", "bad", "table", "grown", "state", "action"] ["game", "good", "bad", "table"] (defScope s_close_table) := ⟨rfl, rfl, rfl, by decide +kernel, rfl, by decide +kernel, by decide +kernel⟩
structure GWf (G : Gme) : Prop where
  nd : G.order.Nodup
  len : G.order.length ≤ 16
  keys : G.choices.map (·.1) = G.order
  ix : ∀ p ∈ G.choices, ∀ q ∈ p.2, ∀ a ∈ q.2, a < G.edges.length
  tg : ∀ e ∈ G.edges, ∀ t, e.tgt = some t → t ∈ G.order
  el : G.edges.length ≤ 50000
  cl : ∀ p ∈ G.choices, ∀ q ∈ p.2, q.2.length ≤ 50000
def gP (l : List Bool) (a : Nat) : Prop := l[a]? = some true
def inK (kvs : List (List Str × Dt)) : Sts := fun s => s ∈ kvs.map (·.1)
def optS : Option Str → Dt
  | some n => .s n
  | none => .non
abbrev S_forced (K : PySem.W.Frag) : FS := ⟨Gme × List Bool × List Bool × List (List Str × Dt) × List Str, fun q ds L M => let (G, good, bad, kvs, st) := q
    (∃ x, ds = [dGame K G, .lst (dBls good), .lst (dBls bad), x, .tup (dStrs st)] ∧ vw M x = .dT kvs) ∧ GWf G ∧ st ∈ G.order ∧ good.length = G.edges.length ∧ bad.length = G.edges.length ∧ (∀ a, a < G.edges.length → G.tg a = none → gP good a),
  fun q M d M' => let (G, good, bad, kvs, st) := q
    M = M' ∧ ∃ r, d = optS r ∧ (r = none → ¬ Frc G (gP good) (gP bad) (inK kvs) st) ∧ (r ≠ none → Frc G (gP good) (gP bad) (inK kvs) st)⟩
abbrev S_close (K : PySem.W.Frag) : FS := ⟨Gme × List Bool × List Bool × List (List Str × Dt) × Addr, fun q ds L M => let (G, good, bad, kvs, t) := q
    ds = [dGame K G, .lst (dBls good), .lst (dBls bad), .adr t] ∧ M t = some (.dT kvs) ∧ GWf G ∧ good.length = G.edges.length ∧ bad.length = G.edges.length ∧ (∀ a, a < G.edges.length → G.tg a = none → gP good a) ∧ (kvs.map (·.1)).Nodup ∧ ∀ s, inK kvs s → s ∈ G.order,
  fun q M d M' => let (G, good, bad, kvs, t) := q
    d = .non ∧ ∃ kvs', M' = mset M t (.dT kvs') ∧ (kvs'.map (·.1)).Nodup ∧ (∀ s, inK kvs' s → s ∈ G.order) ∧ (∀ s, inK kvs s → inK kvs' s) ∧ (∀ s ∈ G.order, Frc G (gP good) (gP bad) (inK kvs') s → inK kvs' s) ∧
      ∀ T : Sts, (∀ s ∈ G.order, Frc G (gP good) (gP bad) T s → T s) → (∀ s, inK kvs s → T s) → ∀ s, inK kvs' s → T s⟩
section
variable {P : Program} {w : World} {K : PySem.W.Frag} {mg : Str → Option Value} {base : Heap}
theorem inK_look {kvs : List (List Str × Dt)} {s : List Str} : (lookA kvs s).isSome = true ↔ inK kvs s := by
  unfold lookA inK
  rw [Option.isSome_map]
  rw [List.find?_isSome]
  simp only [decide_eq_true_eq, List.mem_map]
theorem ch_look {G : Gme} (h : GWf G) {st : List Str} {l : List (Str × List Nat)} (hl : (st, l) ∈ G.choices) : lookA (kCh G.choices) st = some (dChs l) := by
  have nd : (G.choices.map (·.1)).Nodup := by rw [h.keys]; exact h.nd
  unfold lookA kCh
  revert nd hl
  generalize G.choices = ch
  induction ch with
  | nil => intro hl; simp at hl
  | cons p ch ih =>
    intro hl nd
    rw [List.map_cons, List.nodup_cons] at nd
    rw [List.map_cons, List.find?_cons]
    rcases List.mem_cons.mp hl with rfl | hl
    · simp
    · have hne : p.1 ≠ st := fun e => nd.1 (e ▸ List.mem_map.mpr ⟨_, hl, rfl⟩)
      simp only [hne, decide_false]
      exact ih hl nd.2
theorem ch_has {G : Gme} (h : GWf G) {st : List Str} (hs : st ∈ G.order) : ∃ l, (st, l) ∈ G.choices := by
  rw [← h.keys] at hs
  obtain ⟨p, hp, rfl⟩ := List.mem_map.mp hs
  exact ⟨p.2, hp⟩
theorem ch_one {G : Gme} (h : GWf G) {st : List Str} {l l' : List (Str × List Nat)} (h1 : (st, l) ∈ G.choices) (h2 : (st, l') ∈ G.choices) : l = l' := by
  have nd : (G.choices.map (·.1)).Nodup := by rw [h.keys]; exact h.nd
  revert nd h1 h2
  generalize G.choices = ch
  induction ch with
  | nil => intro hl; simp at hl
  | cons p ch ih =>
    intro h1 h2 nd
    rw [List.map_cons, List.nodup_cons] at nd
    rcases List.mem_cons.mp h1 with rfl | h1' <;> rcases List.mem_cons.mp h2 with e | h2'
    · cases e; rfl
    · exact absurd (show st ∈ ch.map (·.1) from List.mem_map.mpr ⟨(st, l'), h2', rfl⟩) nd.1
    · subst e; exact absurd (show st ∈ ch.map (·.1) from List.mem_map.mpr ⟨(st, l), h1', rfl⟩) nd.1
    · exact ih h1' h2' nd.2
def okB (G : Gme) (good bad : List Bool) (kvs : List (List Str × Dt)) (a : Nat) : Bool := good.getD a false || (!bad.getD a false && (match G.tg a with | some t => (lookA kvs t).isSome | none => false))
theorem okB_iff {G : Gme} {good bad : List Bool} {kvs : List (List Str × Dt)} {a : Nat} (ha : a < bad.length) : okB G good bad kvs a = true ↔ OkE G (gP good) (gP bad) (inK kvs) a := by
  unfold okB OkE gP
  rw [Bool.or_eq_true, Bool.and_eq_true, Bool.not_eq_true']
  have e1 : good.getD a false = true ↔ good[a]? = some true := by
    rw [List.getD_eq_getElem?_getD]
    cases good[a]? with
    | none => simp
    | some b => simp
  have e2 : bad.getD a false = false ↔ ¬ bad[a]? = some true := by
    rw [List.getD_eq_getElem?_getD]
    cases bad[a]? with
    | none => simp
    | some b => simp
  rw [e1, e2]
  have e3 : (match G.tg a with | some t => (lookA kvs t).isSome | none => false) = true ↔ ∃ t, G.tg a = some t ∧ inK kvs t := by
    cases G.tg a with
    | none => simp
    | some t => simp [inK_look]
  rw [e3]
theorem ok_forced (T : Tx K mg) (D : Df K mg "forced_action" s_forced_action) : Cal P w K mg base 1 "forced_action" (S_forced K).sp [] := by
  refine cal_sym D sc_forced_action (fun _ _ _ _ _ _ us hl => match us, hl with | [_, _, _, _, _], _ => rfl) (fun a ds L M h => by obtain ⟨⟨_, rfl, _⟩, _⟩ := h; rfl) (fun f cdv A outer s H E hr => ⟨_, pss_cons (ps_for PassesOwn.never rfl (pi_list (pe_dget (hu_of hr) (pe_fld (pv 0) rfl) (pv 4) (fun _ _ => rfl))) (pg_tup rfl (pgs_cons (pg_name (i := 5) sc_forced_action.nd rfl (Or.inl rfl)) (pgs_cons (pg_name (i := 6) sc_forced_action.nd rfl (Or.inl rfl)) pgs_nil))) (pss_cons (ps_setLc (i := 7) (own := [("at", 8)]) rfl sc_forced_action.nd rfl rfl (sw_true rfl rfl rfl (by decide +kernel)) (pi_list (pv 6)) (blkOk_by (own := [("at", 8)]) (N := ["game", "good", "bad", "table", "state", "action", "edges", "astray", "at"]) (sc := defScope s_forced_action) (by decide +kernel)) (fun _ _ _ _ _ => (pg_name (i := 8) sc_forced_action.nd rfl (Or.inl rfl))) (fun _ _ _ _ _ => (pts_one (PW.pt (pw_and (pt_not (pt_val (pe_ix (show IxR _ (rIxL K) from ix_list) (pv 1) (pv 8) (fun _ _ => rfl)))) (pw_and1 (PW.pt (pw_or (pt_val (pe_ix (show IxR _ (rIxL K) from ix_list) (pv 2) (pv 8) (fun _ _ => rfl))) (pw_or1 (pt_cmp (pc_dnotin (hu_of hr) (pe_ix (show IxR _ (rIxT K) from ix_tup) (pe_ix (show IxR _ (rIxL K) from ix_list) (show PE _ _ (tFld K _ _) from (pe_fld (pv 0) rfl)) (pv 8) (fun _ _ => rfl)) pe_int (fun _ _ => rfl)) (pv 3)) rfl))))))))) (fun _ _ _ _ _ => (pv 8))) (pss_one (ps_if (pt_cmpR op_eq (pe_callB call_len_seq (by rfl) T.f_len (by decide +kernel) (pa_cons (pv 7) pa_nil)) pe_int (nomark _)) (pss_one (ps_ret (pv 5))) pss_nil)))) (pss_one (ps_ret pe_non)), fun (G, good, bad, kvs, st) ds L M h => ?_⟩)
  obtain ⟨⟨x, rfl, hv⟩, hG, hst, hgl, hbl, hgn⟩ := h
  obtain ⟨l, hl⟩ := ch_has hG hst
  walk_at "sy"
  refine ⟨_, _, .dT (kCh G.choices), rfl, T.cGame, T.n_choices, rfl, ?_⟩
  walk_at "sy"
  refine .inr ⟨_, _, rfl, rfl, _, ch_look hG hl, ?_⟩
  refine ⟨_, rfl, ?_⟩
  refine ⟨fun i Γ' M' => (∃ u5 u6 u7 u8, Γ' = [some (dGame K G), some (.lst (dBls good)), some (.lst (dBls bad)), some x, some (.tup (dStrs st)), u5, u6, u7, u8]) ∧ M = M' ∧ ∀ q ∈ l.take i, ∃ a ∈ q.2, okB G good bad kvs a = false, ⟨⟨none, none, none, none, rfl⟩, rfl, by simp⟩, ?_, ?_⟩
  · rintro i d Γ' M' hd ⟨⟨u5, u6, u7, u8, rfl⟩, rfl, hall⟩
    obtain ⟨q, hq, rfl⟩ := at_map hd
    have hqm := List.mem_of_getElem? hq
    have hix := hG.ix _ hl q hqm
    have hql := hG.cl _ hl q hqm
    refine g_tup ⟨_, rfl, rfl, ?_⟩
    walk_at "sy"
    refine e_lcM (α := Nat) (wo_name (by decide)) ?_
    walk_at "sy"
    refine ⟨q.2, fun k => .i ((k : Nat) : Int), fun a => !okB G good bad kvs a, fun k => .i ((k : Nat) : Int), rfl, hql, fun a ha => ?_, ?_⟩
    · have ha := hix a ha
      have hga : good[a]? = some (good[a]'(by omega)) := List.getElem?_eq_getElem (by omega)
      have hba : bad[a]? = some (bad[a]'(by omega)) := List.getElem?_eq_getElem (by omega)
      have hea : G.edges[a]? = some G.edges[a] := List.getElem?_eq_getElem ha
      have hgd : good.getD a false = good[a]'(by omega) := by rw [List.getD_eq_getElem?_getD, hga]; rfl
      have hbd : bad.getD a false = bad[a]'(by omega) := by rw [List.getD_eq_getElem?_getD, hba]; rfl
      have htg : G.tg a = G.edges[a].tgt := by unfold Gme.tg; rw [hea]; rfl
      intro M' lM
      have hv' := vw_le lM hv (fun b e => nomatch e)
      generalize good[a]'(by omega) = gb at hga hgd
      generalize bad[a]'(by omega) = bb at hba hbd
      generalize G.edges[a] = e at hea htg
      have fin : ∀ b : Bool, b = (!okB G good bad kvs a) → b = (!okB G good bad kvs a) ∧ M' = M' ∧ ((!okB G good bad kvs a) = true → Ev L [some (dGame K G), some (.lst (dBls good)), some (.lst (dBls bad)), some x, some (.tup (dStrs st)), some (.s q.1), some (dNums q.2), u7, some (.i ((a : Nat) : Int))] M' (tVar 8) fun y M4 => y = .i ((a : Nat) : Int) ∧ M4 = M') := by
        intro b eb
        refine ⟨eb, rfl, fun _ => ?_⟩
        walk_at "sy"
        exact ⟨rfl, rfl⟩
      walk_at "sy"
      refine ⟨rfl, ?_⟩
      walk_at "sy"
      refine o_ixL (n := a) (d := .b gb) rfl (by unfold dBls; rw [List.getElem?_map, hga]; rfl) ⟨_, rfl, iB (fun e1 => ?_) (fun e1 => fin _ ?_)⟩
      · have e1 : gb = false := by simpa using e1
        walk_at "sy"
        refine o_ixL (n := a) (d := .b bb) rfl (by unfold dBls; rw [List.getElem?_map, hba]; rfl) ⟨_, rfl, iB (fun e2 => fin _ ?_) (fun e2 => ?_)⟩
        · unfold okB
          rw [hgd, hbd, e1, e2]
          rfl
        · walk_at "sy"
          refine ⟨_, _, .lst (G.edges.map dEdge), rfl, T.cGame, T.n_edges, rfl, ?_⟩
          walk_at "sy"
          refine o_ixL (n := a) (d := dEdge e) rfl (by rw [List.getElem?_map, hea]; rfl) ?_
          walk_at "sy"
          refine o_ixT (n := 0) (d := dTgt e.tgt) rfl ?_
          cases ht : e.tgt with
          | none =>
            have := hgn a ha (by rw [htg, ht])
            unfold gP at this
            rw [hga, e1] at this
            cases this
          | some t =>
            walk_at "sy"
            refine .inr ⟨_, _, hv', rfl, ?_⟩
            refine ⟨_, rfl, fin _ ?_⟩
            unfold okB
            rw [hgd, hbd, e1, e2, htg, ht]
            rfl
      · have e1 : gb = true := by simpa using e1
        unfold okB
        rw [hgd, e1]
        rfl
    · walk_at "sy"
      refine c_len (.inl rfl) ?_
      walk_at "sy"
      refine o_eq rfl rfl rfl ⟨_, rfl, iB (fun e1 => ?_) (fun e1 => ?_)⟩
      · walk_at "sy"
        refine ⟨rfl, some q.1, rfl, (fun e => nomatch e), fun _ => ⟨l, hl, q, hqm, fun a ha => ?_⟩⟩
        have e2 : (((q.2.filter fun a => !okB G good bad kvs a).map fun k => Dt.i ((k : Nat) : Int)).length : Int) = 0 := V.int.inj (of_decide_eq_true e1)
        have e3 : (q.2.filter fun a => !okB G good bad kvs a) = [] := by
          refine List.eq_nil_of_length_eq_zero ?_
          rw [List.length_map] at e2
          omega
        rw [List.filter_eq_nil_iff] at e3
        have := e3 a ha
        simp only [Bool.not_eq_true', Bool.not_eq_false] at this
        exact (okB_iff (by rw [hbl]; exact hix a ha)).mp this
      · walk_at "sy"
        refine ⟨⟨_, _, _, _, rfl⟩, rfl, fun q' hq' => ?_⟩
        rw [take_one hq, List.mem_append, List.mem_singleton] at hq'
        rcases hq' with hq' | rfl
        · exact hall q' hq'
        · have e2 : ¬ (((q'.2.filter fun a => !okB G good bad kvs a).map fun k => Dt.i ((k : Nat) : Int)).length : Int) = 0 := fun z => by
            have := of_decide_eq_false e1
            exact this (congrArg V.int z)
          cases e3 : q'.2.filter fun a => !okB G good bad kvs a with
          | nil => rw [e3] at e2; exact absurd rfl e2
          | cons a r =>
            have : a ∈ q'.2.filter fun a => !okB G good bad kvs a := by rw [e3]; exact List.mem_cons_self
            obtain ⟨h1, h2⟩ := List.mem_filter.mp this
            exact ⟨a, h1, by simpa using h2⟩
  · rintro Γ' M' ⟨⟨u5, u6, u7, u8, rfl⟩, rfl, hall⟩
    walk_at "sy"
    refine ⟨rfl, none, rfl, fun _ => ?_, fun e => absurd rfl e⟩
    rw [List.length_map, List.take_length] at hall
    rintro ⟨l', hl', q, hq, hok⟩
    rw [← ch_one hG hl hl'] at hq
    obtain ⟨a, ha, hb⟩ := hall q hq
    have := (okB_iff (kvs := kvs) (by rw [hbl]; exact hG.ix _ hl q hq a ha)).mpr (hok a ha)
    rw [hb] at this
    cases this
theorem inK_put {kvs : List (List Str × Dt)} {s : List Str} {v : Dt} (h : ¬ inK kvs s) : putA kvs s v = kvs ++ [(s, v)] := putA_new h
theorem inK_app {kvs : List (List Str × Dt)} {s : List Str} {v : Dt} {t : List Str} : inK (kvs ++ [(s, v)]) t ↔ inK kvs t ∨ t = s := by
  unfold inK
  simp
theorem nodup_le {l m : List (List Str)} (hl : l.Nodup) (h : ∀ s ∈ l, s ∈ m) : l.length ≤ m.length := by
  induction l generalizing m with
  | nil => exact Nat.zero_le _
  | cons x l ih =>
    rw [List.nodup_cons] at hl
    have hx : x ∈ m := h x List.mem_cons_self
    have := ih (m := m.erase x) hl.2 fun s hs => by
      refine (List.mem_erase_of_ne ?_).mpr (h s (List.mem_cons_of_mem _ hs))
      rintro rfl
      exact hl.1 hs
    rw [List.length_erase_of_mem hx] at this
    have hp := List.length_pos_of_mem hx
    rw [List.length_cons]
    omega
theorem ok_close (T : Tx K mg) (D : Df K mg "close_table" s_close_table) (cF : Cal P w K mg base 1 "forced_action" (S_forced K).sp []) : Cal P w K mg base 2 "close_table" (S_close K).sp [] := by
  refine cal_sym D sc_close_table (fun _ _ _ _ _ _ us hl => match us, hl with | [_, _, _, _], _ => rfl) (fun a ds L M h => by obtain ⟨rfl, _⟩ := h; rfl) (fun f cdv A outer s H E hr => ⟨_, pss_cons (ps_set (i := 4) sc_close_table.nd rfl (Or.inl rfl) pe_bl) (pss_one (ps_while PassesOwn.never (pt_val (pv 4)) (pss_cons (ps_set (i := 4) sc_close_table.nd rfl (Or.inl rfl) pe_bl) (pss_one (ps_for PassesOwn.never rfl (pi_list (pe_fld (pv 0) rfl)) (pg_name (i := 5) sc_close_table.nd rfl (Or.inl rfl)) (pss_one (ps_if (pt_cmp (pc_dnotin (hu_of hr) (pv 5) (pv 3)) rfl) (pss_cons (ps_set (i := 6) sc_close_table.nd rfl (Or.inl rfl) (pe_c cF hr (by omega) rfl (pa_cons (pv 0) (pa_cons (pv 1) (pa_cons (pv 2) (pa_cons (pv 3) (pa_cons (pv 5) pa_nil))))))) (pss_one (ps_if (pt_cmp (pc_notN (pv 6)) rfl) (pss_cons (ps_dput (hu_of hr) (pv 3) (pv 5) (pv 6) rfl) (pss_one (ps_set (i := 4) sc_close_table.nd rfl (Or.inl rfl) pe_bl))) pss_nil))) pss_nil))))))), fun (G, good, bad, kvs, t) ds L M h => ?_⟩)
  obtain ⟨rfl, ht, hG, hgl, hbl, hgn, hnd, hsub⟩ := h
  let Sp : List (List Str × Dt) → Prop := fun kv => (kv.map (·.1)).Nodup ∧ (∀ s, inK kv s → s ∈ G.order) ∧ (∀ s, inK kvs s → inK kv s) ∧ ∀ T : Sts, (∀ s ∈ G.order, Frc G (gP good) (gP bad) T s → T s) → (∀ s, inK kvs s → T s) → ∀ s, inK kv s → T s
  have frcM : ∀ {T T' : Sts} {s}, (∀ t, T t → T' t) → Frc G (gP good) (gP bad) T s → Frc G (gP good) (gP bad) T' s := fun h f => f.mono (fun _ h => h) (fun _ h => h) h
  have SpLen : ∀ kv, Sp kv → kv.length ≤ 16 := fun kv h => by
    have := nodup_le h.1 fun s hs => h.2.1 s hs
    rw [List.length_map] at this
    have := hG.len
    omega
  walk_at "sy"
  refine r_while (fun m Γ' M' => ∃ g5 u5 u6 kv, Γ' = [some (dGame K G), some (.lst (dBls good)), some (.lst (dBls bad)), some (.adr t), some (.b g5), u5, u6] ∧ M' = mset M t (.dT kv) ∧ Sp kv ∧ (g5 = false → ∀ s ∈ G.order, Frc G (gP good) (gP bad) (inK kv) s → inK kv s) ∧ m = (16 - kv.length) * 2 + (if g5 then 1 else 0)) _ ⟨true, none, none, kvs, rfl, ?_, ⟨hnd, hsub, fun _ h => h, fun T _ h => h⟩, (fun e => nomatch e), rfl⟩ ?_
  · funext b
    unfold mset
    split
    · rename_i hb
      rw [hb, ht]
    · rfl
  rintro m Γ' M' ⟨g5, u5, u6, kv, rfl, rfl, hS, hcl, rfl⟩
  walk_at "sy"
  refine iB (fun e => ?_) (fun e => ?_)
  · subst e
    walk_at "sy"
    refine ⟨_, _, .lst (dSts G.order), rfl, T.cGame, T.n_order, rfl, ?_⟩
    refine ⟨_, rfl, ?_⟩
    refine ⟨fun i Γ' M' => ∃ g u5 u6 kv', Γ' = [some (dGame K G), some (.lst (dBls good)), some (.lst (dBls bad)), some (.adr t), some (.b g), u5, u6] ∧ M' = mset M t (.dT kv') ∧ Sp kv' ∧ (g = false → kv' = kv ∧ ∀ s ∈ G.order.take i, Frc G (gP good) (gP bad) (inK kv') s → inK kv' s) ∧ (g = true → kv.length < kv'.length), ⟨false, _, _, kv, rfl, rfl, hS, fun _ => ⟨rfl, by simp⟩, fun e => nomatch e⟩, ?_, ?_⟩
    · rintro i d Γ' M' hd ⟨g, v5, v6, kv', rfl, rfl, hS', h1, h2⟩
      obtain ⟨st, hst, rfl⟩ := at_map hd
      have hsto := List.mem_of_getElem? hst
      have hl16 := SpLen kv' hS'
      walk_at "sy"
      refine .inr ⟨_, _, vw_adr mset_same, rfl, ?_⟩
      refine ⟨_, rfl, iB (fun e => ?_) (fun e => ?_)⟩
      · have hnot : ¬ inK kv' st := fun z => by
          rw [inK_look.mpr z] at e
          cases e
        walk_at "sy"
        refine ⟨(G, good, bad, kv', st), ⟨⟨_, rfl, vw_adr mset_same⟩, hG, hsto, hgl, hbl, hgn⟩, ?_⟩
        rintro d M2 ⟨rfl, r, rfl, r1, r2⟩
        walk_at "sy"
        cases r with
        | none =>
          refine ⟨fun _ => ⟨_, rfl, iF rfl ?_⟩, fun e => absurd rfl e⟩
          walk_at "sy"
          refine ⟨g, _, _, kv', rfl, rfl, hS', fun eg => ⟨(h1 eg).1, fun s hs hf => ?_⟩, h2⟩
          rw [take_one hst, List.mem_append, List.mem_singleton] at hs
          rcases hs with hs | rfl
          · exact (h1 eg).2 s hs hf
          · exact absurd hf (r1 rfl)
        | some n =>
          refine ⟨(fun e => nomatch e), fun _ => ⟨_, rfl, iT rfl ?_⟩⟩
          walk_at "sy"
          refine .inr ⟨_, _, mset_same, rfl, by omega, ?_⟩
          rw [mset_mset, inK_put hnot]
          walk_at "sy"
          refine ⟨true, _, _, kv' ++ [(st, .s n)], rfl, rfl, ⟨?_, ?_, ?_, ?_⟩, (fun e => nomatch e), fun _ => ?_⟩
          · rw [List.map_append]
            refine List.nodup_append.mpr ⟨hS'.1, by simp, fun a ha b hb => ?_⟩
            simp at hb
            subst hb
            rintro rfl
            exact hnot ha
          · intro s hs
            rcases inK_app.mp hs with hs | rfl
            · exact hS'.2.1 s hs
            · exact hsto
          · exact fun s hs => inK_app.mpr (.inl (hS'.2.2.1 s hs))
          · intro T hT hk s hs
            rcases inK_app.mp hs with hs | rfl
            · exact hS'.2.2.2 T hT hk s hs
            · exact hT s hsto (frcM (hS'.2.2.2 T hT hk) (r2 (fun e => nomatch e)))
          · rw [List.length_append]
            cases g with
            | true => have := h2 rfl; simp; omega
            | false => rw [(h1 rfl).1]; simp
      · have hin : inK kv' st := inK_look.mp (by simpa using e)
        walk_at "sy"
        refine ⟨g, _, _, kv', rfl, rfl, hS', fun eg => ⟨(h1 eg).1, fun s hs hf => ?_⟩, h2⟩
        rw [take_one hst, List.mem_append, List.mem_singleton] at hs
        rcases hs with hs | rfl
        · exact (h1 eg).2 s hs hf
        · exact hin
    · rintro Γ' M' ⟨g, v5, v6, kv', rfl, rfl, hS', h1, h2⟩
      have hl16 := SpLen kv' hS'
      have hl16' := SpLen kv hS
      refine ⟨_, ?_, g, _, _, kv', rfl, rfl, hS', fun eg s hs hf => ?_, rfl⟩
      · cases g with
        | true => have := h2 rfl; simp; omega
        | false => rw [(h1 rfl).1]; simp
      · have e1 : (dSts G.order).length = G.order.length := by simp [dSts]
        refine (h1 eg).2 s ?_ hf
        show s ∈ G.order.take (dSts G.order).length
        rw [e1, List.take_length]
        exact hs
  · subst e
    exact ⟨rfl, kv, rfl, hS.1, hS.2.1, hS.2.2.1, hcl rfl, hS.2.2.2⟩
end
end K85
set_option maxRecDepth 100000
set_option maxHeartbeats 4000000
/-! the solver: falling sets -/
namespace K85
open PySem L2
open C8 (Cal Met Mak pe_c pe_mk pe_mt pe_mt0 pe_gc)
local macro_rules | `(tactic| walk_at "sy1") => `(tactic| with_reducible first
  | refine r_seq ?_ | refine r_if ?_ | refine r_ret ?_ | refine r_retN ?_ | refine r_asg ?_ | refine r_drop ?_ | refine r_brk ?_ | refine r_cont ?_ | refine r_fld ?_ | refine r_dput ?_ | refine r_for ?_ | refine r_next ?_
  | refine g_name ?_ | refine g_tup ?_ | refine g_unl ?_ | refine g_cons ?_ | refine g_nil ?_
  | refine t_test ?_ | refine t_B ?_ | refine t_not ?_ | refine t_and ?_ | refine t_or ?_ | refine t_yes ?_
  | refine e_var rfl ?_ | refine e_int ?_ | refine e_str ?_ | refine e_bl ?_ | refine e_non ?_ | refine e_ref ?_ | refine e_op ?_ | refine e_un ?_ | refine e_andV ?_ | refine e_orV ?_ | refine e_notV ?_ | refine e_if ?_ | refine e_isN ?_ | refine e_notN ?_
  | refine e_tup ?_ | refine e_fld ?_ | refine e_call0 ?_ | refine e_meth0 ?_ | refine e_cb ?_ | refine e_bm ?_ | refine e_dget ?_ | refine e_dget1 ?_ | refine e_din ?_ | refine e_dnotin ?_ | refine e_chain ?_ | refine e_fcall ?_ | refine e_sm ?_
  | refine a_nil ?_ | refine a_cons ?_ | refine i_list ?_ | refine i_tup ?_ | refine i_seq ?_ | refine i_rng1 ?_ | refine i_str ?_
  | refine s_none ?_ | refine s_some ?_ | refine e_slL ?_ | refine e_slT ?_
  | refine o_II ?_ | refine o_IB ?_)
local macro_rules | `(tactic| walk_at "sy") => `(tactic| repeat (first | walk_at "sy1" | refine ⟨_, rfl, ?_⟩ | refine ⟨(rfl : List.lookup _ _ = none), ?_⟩))
local macro_rules | `(tactic| walk_at "eqF") => `(tactic| (refine o_eq rfl rfl rfl ?_; walk_at "sy"; refine iF (by decide +kernel) ?_; walk_at "sy"))
local macro_rules | `(tactic| walk_at "eqT") => `(tactic| (refine o_eq rfl rfl rfl ?_; walk_at "sy"; refine iT (by decide +kernel) ?_; walk_at "sy"))
local macro_rules | `(tactic| walk_at "pureEnd") => `(tactic| (rintro d M' ⟨rfl, rfl⟩))
abbrev s_falling_of : Stmt := top 5
theorem sc_falling_of : FnScope ["game", "good", "bad", "counters", "counter", "table", "rest", "worse", "inside", "falls", "better", "other", "state", "at", "edge", "lessened", "led"] ["game", "good", "bad", "counters", "counter", "table"] (defScope s_falling_of) := ⟨rfl, rfl, rfl, by decide +kernel, rfl, by decide +kernel, by decide +kernel⟩
abbrev s_won_by : Stmt := top 6
theorem sc_won_by : FnScope ["game", "good", "bad", "counters", "table", "record", "grown", "counter", "falls", "fresh", "state"] ["game", "good", "bad", "counters"] (defScope s_won_by) := ⟨rfl, rfl, rfl, by decide +kernel, rfl, by decide +kernel, by decide +kernel⟩
def betL (G : Gme) (good bad : List Bool) (c : Str) (kT kX : List (List Str × Dt)) (a : Nat) : Bool := good.getD a false || (!bad.getD a false && (match G.tg a with | some t => (lookA kT t).isSome || (decide (c ∈ G.tk a) && !decide (c ∈ G.ad a) && (lookA kX t).isSome) | none => false))
def worL (G : Gme) (bad : List Bool) (c : Str) (a : Nat) : Bool := bad.getD a false || decide (c ∈ G.ad a)
def mkL (G : Gme) (f : Nat → Bool) : List Bool := (List.range G.edges.length).map f
abbrev S_won (K : PySem.W.Frag) (n : Nat) : FS := ⟨Gme × List Bool × List Bool × List Str, fun q ds L M => let (G, good, bad, cs) := q
    ds = [dGame K G, .lst (dBls good), .lst (dBls bad), .lst (dStrs cs)] ∧ GWf G ∧ good.length = G.edges.length ∧ bad.length = G.edges.length ∧ (∀ a, a < G.edges.length → G.tg a = none → gP good a) ∧ cs.length ≤ n ∧ cs.length ≤ 8 ∧ ∀ b, L b = none,
  fun q M d M' => let (G, good, bad, cs) := q
    M = M' ∧ ∃ kvs rest, d = .tup (.dT kvs :: rest) ∧ (kvs.map (·.1)).Nodup ∧ ∀ s, inK kvs s ↔ Win G n (gP good) (gP bad) cs s⟩
abbrev S_fall (K : PySem.W.Frag) (n : Nat) : FS := ⟨Gme × List Bool × List Bool × List Str × Str × List (List Str × Dt), fun q ds L M => let (G, good, bad, cs, c, kT) := q
    (∃ x, ds = [dGame K G, .lst (dBls good), .lst (dBls bad), .lst (dStrs cs), .s c, x] ∧ vw M x = .dT kT) ∧ GWf G ∧ good.length = G.edges.length ∧ bad.length = G.edges.length ∧ (∀ a, a < G.edges.length → G.tg a = none → gP good a) ∧ c ∈ cs ∧ cs.length ≤ n ∧ cs.length ≤ 8 ∧ ∀ b, L b = none,
  fun q M d M' => let (G, good, bad, cs, c, kT) := q
    M = M' ∧ ∃ ds kvs rest, d = .lst (ds ++ [.tup (.dT kvs :: rest)]) ∧ (kvs.map (·.1)).Nodup ∧ (∀ s, inK kvs s → s ∈ G.order ∧ Win G (n - 1) (Btr G (gP good) (gP bad) c (inK kT) (inK kvs)) (Wrs G (gP bad) c) (oth cs c) s) ∧
      ∀ X : Sts, (∀ s, X s → s ∈ G.order ∧ Win G (n - 1) (Btr G (gP good) (gP bad) c (inK kT) X) (Wrs G (gP bad) c) (oth cs c) s) → ∀ s, X s → inK kvs s⟩
section
variable {P : Program} {w : World} {K : PySem.W.Frag} {mg : Str → Option Value} {base : Heap}
theorem getD_gP {l : List Bool} {a : Nat} : l.getD a false = true ↔ gP l a := by
  unfold gP
  rw [List.getD_eq_getElem?_getD]
  cases l[a]? with
  | none => simp
  | some b => simp
theorem mkL_len {G : Gme} {f : Nat → Bool} : (mkL G f).length = G.edges.length := by unfold mkL; simp
theorem mkL_gP {G : Gme} {f : Nat → Bool} {Pp : Nat → Prop} (h : ∀ a, a < G.edges.length → (f a = true ↔ Pp a)) (h2 : ∀ a, G.edges.length ≤ a → ¬ Pp a) : gP (mkL G f) = Pp := by
  funext a
  refine propext ?_
  unfold gP mkL
  by_cases ha : a < G.edges.length
  · rw [List.getElem?_map, List.getElem?_range ha]
    simp only [Option.map_some, Option.some.injEq]
    exact h a ha
  · rw [List.getElem?_map, List.getElem?_eq_none (by simp; omega)]
    simp only [Option.map_none]
    exact ⟨(fun e => nomatch e), fun e => absurd e (h2 a (by omega))⟩
theorem gP_lt {l : List Bool} {a : Nat} (h : gP l a) : a < l.length := (List.getElem?_eq_some_iff.mp h).1
theorem tg_none {G : Gme} {a : Nat} (h : G.edges.length ≤ a) : G.tg a = none := by unfold Gme.tg; rw [List.getElem?_eq_none h]; rfl
theorem bet_gP {G : Gme} {good bad : List Bool} {c : Str} {kT kX : List (List Str × Dt)} (hg : good.length = G.edges.length) : gP (mkL G (betL G good bad c kT kX)) = Btr G (gP good) (gP bad) c (inK kT) (inK kX) := by
  refine mkL_gP (fun a ha => ?_) fun a ha => ?_
  · unfold betL Btr
    rw [Bool.or_eq_true, Bool.and_eq_true, Bool.not_eq_true', getD_gP]
    have e2 : bad.getD a false = false ↔ ¬ gP bad a := by rw [← getD_gP, Bool.not_eq_true]
    rw [e2]
    cases ht : G.tg a with
    | none => simp
    | some t => simp [inK_look, and_assoc]
  · rintro (h | ⟨_, t, ht, _⟩)
    · have := gP_lt h
      omega
    · rw [tg_none ha] at ht
      cases ht
theorem wor_gP {G : Gme} {bad : List Bool} {c : Str} (hb : bad.length = G.edges.length) : gP (mkL G (worL G bad c)) = Wrs G (gP bad) c := by
  refine mkL_gP (fun a ha => ?_) fun a ha => ?_
  · unfold worL Wrs
    rw [Bool.or_eq_true, getD_gP, decide_eq_true_eq]
  · rintro (h | h)
    · have := gP_lt h
      omega
    · unfold Gme.ad at h
      rw [List.getElem?_eq_none ha] at h
      simp at h
theorem sub_eq {l m : List (List Str)} (hl : l.Nodup) (h : ∀ s ∈ l, s ∈ m) (hn : m.length ≤ l.length) : ∀ s ∈ m, s ∈ l := by
  intro s hs
  refine Classical.byContradiction fun hns => ?_
  have := nodup_le (l := s :: l) (m := m) (List.nodup_cons.mpr ⟨hns, hl⟩) fun t ht => by
    rcases List.mem_cons.mp ht with rfl | ht
    · exact hs
    · exact h t ht
  rw [List.length_cons] at this
  omega
theorem oth_len {cs : List Str} {c : Str} (h : c ∈ cs) : (oth cs c).length + 1 ≤ cs.length := by
  unfold oth
  induction cs with
  | nil => simp at h
  | cons d cs ih =>
    rw [List.filter_cons]
    have hl := List.length_filter_le (fun o => !decide (o = c)) cs
    by_cases e : d = c
    · simp only [e, decide_true, Bool.not_true, Bool.false_eq_true, if_false, List.length_cons]
      omega
    · rcases List.mem_cons.mp h with h | h
      · exact absurd h.symm e
      · have := ih h
        simp only [e, decide_false, Bool.not_false, if_true, List.length_cons]
        omega
theorem ok_fall (T : Tx K mg) (D : Df K mg "falling_of" s_falling_of) (n : Nat) (cW : ∀ m, n = m + 1 → Cal P w K mg base (2 * m + 4) "won_by" (S_won K m).sp []) : Cal P w K mg base (2 * n + 3) "falling_of" (S_fall K n).sp [] := by
  cases n with
  | zero =>
    refine cal_sym D sc_falling_of (fun _ _ _ _ _ _ us hl => match us, hl with | [_, _, _, _, _, _], _ => rfl) (fun a ds L M h => by obtain ⟨⟨_, rfl, _⟩, _⟩ := h; rfl) (fun f cdv A outer s H E hr => ⟨_, pss_never, fun (G, good, bad, cs, c, kT) ds L M h => ?_⟩)
    obtain ⟨_, _, _, _, _, hc, hn, _⟩ := h
    have := List.length_pos_of_mem hc
    omega
  | succ n =>
  have cW := cW n rfl
  refine cal_sym D sc_falling_of (fun _ _ _ _ _ _ us hl => match us, hl with | [_, _, _, _, _, _], _ => rfl) (fun a ds L M h => by obtain ⟨⟨_, rfl, _⟩, _⟩ := h; rfl) (fun f cdv A outer s H E hr => ⟨_, pss_cons (ps_setLc (i := 6) (own := [("other", 11)]) rfl sc_falling_of.nd rfl rfl (sw_true rfl rfl rfl (by decide +kernel)) (pi_list (pv 3)) (blkOk_by (own := [("other", 11)]) (N := ["game", "good", "bad", "counters", "counter", "table", "rest", "worse", "inside", "falls", "better", "other", "state", "at", "edge", "lessened", "led"]) (sc := defScope s_falling_of) (by decide +kernel)) (fun _ _ _ _ _ => (pg_name (i := 11) sc_falling_of.nd rfl (Or.inl rfl))) (fun _ _ _ _ _ => (pts_one (pt_cmpR op_ne (pv 11) (pv 4) (nomark _)))) (fun _ _ _ _ _ => (pv 11))) (pss_cons (ps_setLc (i := 7) (own := [("at", 13), ("edge", 14)]) rfl sc_falling_of.nd rfl rfl (sw_true rfl rfl rfl (by decide +kernel)) (pi_enum (by rfl) T.f_enumerate (pa_cons (pe_fld (pv 0) rfl) pa_nil)) (blkOk_by (own := [("at", 13), ("edge", 14)]) (N := ["game", "good", "bad", "counters", "counter", "table", "rest", "worse", "inside", "falls", "better", "other", "state", "at", "edge", "lessened", "led"]) (sc := defScope s_falling_of) (by decide +kernel)) (fun _ _ _ _ _ => (show PG _ _ (gTup K 2 _) from pg_tup rfl (pgs_cons (pg_name (i := 13) sc_falling_of.nd rfl (Or.inl rfl)) (pgs_cons (pg_name (i := 14) sc_falling_of.nd rfl (Or.inl rfl)) pgs_nil)))) (fun _ _ _ _ _ => pts_nil) (fun _ _ _ _ _ => (pe_or (pe_ix (show IxR _ (rIxL K) from ix_list) (pv 2) (pv 13) (fun _ _ => rfl)) (pe_one (pe_cmpR (show OpR _ _ (rIn K false) from op_in_seq) (pv 4) (pe_ix (show IxR _ (rIxT K) from ix_tup) (pv 14) pe_int (fun _ _ => rfl)) rfl))))) (pss_cons (ps_setDcT (hu_of hr) (i := 8) (own := [("state", 12)]) rfl sc_falling_of.nd rfl rfl (swD_true rfl rfl rfl (by decide +kernel)) (pi_list (pe_fld (pv 0) rfl)) (blkOk_by (own := [("state", 12)]) (N := ["game", "good", "bad", "counters", "counter", "table", "rest", "worse", "inside", "falls", "better", "other", "state", "at", "edge", "lessened", "led"]) (sc := defScope s_falling_of) (by decide +kernel)) (fun _ _ _ _ _ => (pg_name (i := 12) sc_falling_of.nd rfl (Or.inl rfl))) (fun _ _ _ _ _ => pts_nil) (fun _ _ _ _ _ => (pv 12)) (fun _ _ _ _ _ => pe_bl)) (pss_cons (ps_set (i := 9) sc_falling_of.nd rfl (Or.inl rfl) (pe_lst pa_nil)) (pss_one (ps_while PassesOwn.never (pt_val pe_bl) (pss_cons (ps_set (i := 10) sc_falling_of.nd rfl (Or.inl rfl) (pe_lst pa_nil)) (pss_cons (ps_for PassesOwn.never rfl (pi_enum (by rfl) T.f_enumerate (pa_cons (pe_fld (pv 0) rfl) pa_nil)) (pg_tup rfl (pgs_cons (pg_name (i := 13) sc_falling_of.nd rfl (Or.inl rfl)) (pgs_cons (pg_name (i := 14) sc_falling_of.nd rfl (Or.inl rfl)) pgs_nil))) (pss_cons (ps_set (i := 15) sc_falling_of.nd rfl (Or.inl rfl) (pe_and (pe_cmpR op_in_seq (pv 4) (pe_ix ix_tup (pv 14) pe_int (fun _ _ => rfl)) rfl) (pe_one (pe_cmpR op_notIn_seq (pv 4) (pe_ix ix_tup (pv 14) pe_int (fun _ _ => rfl)) rfl)))) (pss_cons (ps_set (i := 16) sc_falling_of.nd rfl (Or.inl rfl) (pe_or (pe_cmp (pc_dinN (hu_of hr) (pe_ix ix_tup (pv 14) pe_int (fun _ _ => rfl)) (pv 5)) rfl) (pe_one (pe_and (pv 15) (pe_one (pe_cmp (pc_dinN (hu_of hr) (pe_ix ix_tup (pv 14) pe_int (fun _ _ => rfl)) (pv 8)) rfl)))))) (pss_one (ps_expr (pe_bm PySem.F.plainAttrs_list PySem.F.slot_list_append PySem.F.type_list_append mt_append (pv 10) (pa_cons (pe_or (pe_ix ix_list (pv 1) (pv 13) (fun _ _ => rfl)) (pe_one (pe_and (pe_not (pe_ix ix_list (pv 2) (pv 13) (fun _ _ => rfl))) (pe_one (pv 16))))) pa_nil))))))) (pss_cons (ps_expr (pe_bm PySem.F.plainAttrs_list PySem.F.slot_list_append PySem.F.type_list_append mt_append (pv 9) (pa_cons (pe_c cW hr (by omega) rfl (pa_cons (pv 0) (pa_cons (pv 10) (pa_cons (pv 7) (pa_cons (pv 6) pa_nil))))) pa_nil))) (pss_cons (ps_if (pt_cmpR op_eq (pe_callB call_len_dT (by rfl) T.f_len (by decide +kernel) (pa_cons (pe_ix ix_tup (pe_ix ix_list (pv 9) (pe_un un_neg pe_int) (fun _ _ => rfl)) pe_int (fun _ _ => rfl)) pa_nil)) (pe_callB call_len_dT (by rfl) T.f_len (by decide +kernel) (pa_cons (pv 8) pa_nil)) (nomark _)) (pss_one (ps_ret (pv 9))) pss_nil) (pss_one (ps_set (i := 8) sc_falling_of.nd rfl (Or.inl rfl) (pe_ix ix_tup (pe_ix ix_list (pv 9) (pe_un un_neg pe_int) (fun _ _ => rfl)) pe_int (fun _ _ => rfl))))))))))))), fun (G, good, bad, cs, c, kT) ds L M h => ?_⟩)
  obtain ⟨⟨x, rfl, hv⟩, hG, hgl, hbl, hgn, hc, hcn, hc8, hL⟩ := h
  have hol := oth_len hc
  have hel := hG.el
  walk_at "sy"
  refine e_lcM (α := Str) (wo_name (by decide)) ?_
  walk_at "sy"
  refine ⟨cs, Dt.s, fun o => !decide (o = c), Dt.s, rfl, by omega, fun o ho => ?_, ?_⟩
  · intro M' l
    walk_at "sy"
    refine ⟨rfl, ?_⟩
    walk_at "sy"
    have e : decide (V.str o = V.str c) = decide (o = c) := by
      by_cases h : o = c
      · subst h; simp
      · rw [decide_eq_false h, decide_eq_false (fun z => h (V.str.inj z))]
    refine o_ne rfl rfl rfl ⟨_, rfl, by rw [e], rfl, fun _ => ?_⟩
    walk_at "sy"
    exact ⟨rfl, rfl⟩
  walk_at "sy"
  refine e_lcM (α := Nat) (wo_tup (wos_cons (by decide) (wos_cons (by decide) wos_nil))) (i_enum ?_)
  walk_at "sy"
  refine ⟨_, _, .lst (G.edges.map dEdge), rfl, T.cGame, T.n_edges, rfl, ?_⟩
  walk_at "sy"
  refine ⟨List.range G.edges.length, fun a => .tup [.i ((a : Nat) : Int), (G.edges.map dEdge).getD a .non], fun _ => true, fun a => .b (worL G bad c a), ?_, by rw [List.length_range]; exact hel, fun a ha => ?_, ?_⟩
  · unfold enumD
    rw [List.length_map]
  · have ha := List.mem_range.mp ha
    have hba : bad[a]? = some (bad[a]'(by omega)) := List.getElem?_eq_getElem (by omega)
    have hea : G.edges[a]? = some G.edges[a] := List.getElem?_eq_getElem ha
    have hbd : bad.getD a false = bad[a]'(by omega) := by rw [List.getD_eq_getElem?_getD, hba]; rfl
    have had : G.ad a = G.edges[a].added := by unfold Gme.ad; rw [hea]; rfl
    have hed : (G.edges.map dEdge).getD a .non = dEdge G.edges[a] := by rw [List.getD_eq_getElem?_getD, List.getElem?_map, hea]; rfl
    generalize bad[a]'(by omega) = bb at hba hbd
    generalize G.edges[a] = e at hea had hed
    show LcT L _ M _ _ _ _ true (.b (worL G bad c a)) (.tup [.i ((a : Nat) : Int), (G.edges.map dEdge).getD a .non])
    rw [hed]
    intro M' l
    refine g_tup ⟨_, rfl, rfl, ?_⟩
    walk_at "sy"
    refine ⟨rfl, ?_⟩
    walk_at "sy"
    refine ⟨rfl, rfl, fun _ => ?_⟩
    walk_at "sy"
    refine o_ixL (n := a) (d := .b bb) rfl (by unfold dBls; rw [List.getElem?_map, hba]; rfl) ⟨_, rfl, iB (fun e1 => ?_) (fun e1 => ?_)⟩
    · refine ⟨?_, rfl⟩
      unfold worL
      rw [hbd, e1]
      rfl
    · walk_at "sy"
      refine o_ixT (n := 2) (d := .tup (dStrs e.added)) rfl ?_
      refine o_inS (.inr rfl) ⟨?_, rfl⟩
      unfold worL
      rw [hbd, e1, had]
      rfl
  rw [filter_tt]
  have eW : ((List.range G.edges.length).map fun a => Dt.b (worL G bad c a)) = dBls (mkL G (worL G bad c)) := by unfold dBls mkL; rw [List.map_map]; rfl
  rw [eW]
  walk_at "sy"
  refine e_frz (e_dcTO (wo_name (by decide)) ?_)
  walk_at "sy"
  refine ⟨_, _, .lst (dSts G.order), rfl, T.cGame, T.n_order, rfl, ?_⟩
  refine ⟨_, rfl, fun D0 hD0 => ?_⟩
  have hord : ∀ i, i ≤ G.order.length → (((G.order.take i).map fun s => (s, Dt.b true)).map (·.1)) = G.order.take i := fun i _ => by rw [List.map_map]; exact List.map_id _
  refine ⟨fun i M' => M' = mset M D0 (.dT ((G.order.take i).map fun s => (s, Dt.b true))), rfl, ?_, ?_⟩
  · rintro i d M' hd rfl
    obtain ⟨st, hst, rfl⟩ := at_map hd
    have hi := (List.getElem?_eq_some_iff.mp hst).1
    walk_at "sy"
    refine iT rfl ?_
    walk_at "sy"
    refine ⟨_, _, rfl, mset_same, ?_, ?_⟩
    · have := hG.len
      rw [List.length_map, List.length_take]
      omega
    · rw [mset_mset, putA_new]
      · show mset M D0 _ = mset M D0 (.dT ((G.order.take (i + 1)).map fun s => (s, Dt.b true)))
        rw [take_one hst, List.map_append]
        rfl
      · rw [hord i (by omega)]
        intro hm
        obtain ⟨j, hj, ej⟩ := List.mem_take_iff_getElem.mp hm
        have hj' : j < G.order.length := by omega
        have := (List.getElem_inj (h₀ := hj') (h₁ := hi) hG.nd).mp (by rw [ej, (List.getElem?_eq_some_iff.mp hst).2])
        omega
  rintro M' rfl
  refine ⟨_, _, rfl, mset_same, ?_⟩
  rw [mdel_mset hD0]
  have e1 : (dSts G.order).length = G.order.length := by simp [dSts]
  rw [e1, List.take_length]
  walk_at "sy"
  refine e_lstO ?_
  walk_at "sy"
  refine ⟨by simp, fun fa hfa => ?_⟩
  walk_at "sy"
  -- the step on sets
  let F : Sts → Sts := fun X => Win G n (Btr G (gP good) (gP bad) c (inK kT) X) (Wrs G (gP bad) c) (oth cs c)
  have Fm : ∀ {X Y : Sts}, (∀ s, X s → Y s) → ∀ s, F X s → F Y s := fun h s hs => win_mono (Btr.mono (fun _ h => h) (fun _ h => h) (fun _ h => h) h) (fun _ h => h) s hs
  let J : List (List Str × Dt) → Prop := fun kX => (kX.map (·.1)).Nodup ∧ (∀ s, inK kX s → s ∈ G.order) ∧ (∀ s, F (inK kX) s → inK kX s) ∧ ∀ X : Sts, (∀ s, X s → s ∈ G.order ∧ F X s) → ∀ s, X s → inK kX s
  refine Run.post ?_
  refine r_while (fun m Γ' M' => ∃ u10 u13 u14 u15 u16 kX ds', Γ' = [some (dGame K G), some (.lst (dBls good)), some (.lst (dBls bad)), some (.lst (dStrs cs)), some (.s c), some x, some (.lst (dStrs (oth cs c))), some (.lst (dBls (mkL G (worL G bad c)))), some (.dT kX), some (.adr fa), u10, none, none, u13, u14, u15, u16] ∧ M' fa = some (.lst ds') ∧ (∀ b e, M b = some e → M' b = some e) ∧ J kX ∧ kX.length = m ∧ ds'.length + m ≤ 100) _ ⟨none, none, none, none, none, _, [], rfl, mset_same, fun b e hb => ?_, ⟨?_, ?_, ?_, ?_⟩, rfl, ?_⟩ ?_
  · rw [mset_ne]
    · exact hb
    · rintro rfl
      rw [hfa] at hb
      cases hb
  · rw [List.map_map]
    show (G.order.map id).Nodup
    rw [List.map_id]
    exact hG.nd
  · intro s hs
    unfold inK at hs
    rw [List.map_map] at hs
    simpa using hs
  · intro s hs
    unfold inK
    rw [List.map_map]
    simpa using win_in hs
  · intro X hX s hs
    unfold inK
    rw [List.map_map]
    simpa using (hX s hs).1
  · have := hG.len
    rw [List.length_map, List.length_nil]
    omega
  rintro m Γ' M' ⟨u10, u13, u14, u15, u16, kX, ds', rfl, hMf, hMM, hJ, rfl, hds⟩
  walk_at "sy"
  refine iT rfl ?_
  walk_at "sy"
  refine e_lstO ?_
  walk_at "sy"
  refine ⟨by simp, fun ba hba0 => ?_⟩
  have hbf : ba ≠ fa := by
    rintro rfl
    rw [hMf] at hba0
    cases hba0
  have hMb : M ba = none := by
    cases q : M ba with
    | none => rfl
    | some e =>
      rw [hMM ba e q] at hba0
      cases hba0
  walk_at "sy"
  refine i_enum ?_
  walk_at "sy"
  refine ⟨_, _, .lst (G.edges.map dEdge), rfl, T.cGame, T.n_edges, rfl, ?_⟩
  walk_at "sy"
  refine ⟨fun i Γ' M2 => ∃ u13 u14 u15 u16, Γ' = [some (dGame K G), some (.lst (dBls good)), some (.lst (dBls bad)), some (.lst (dStrs cs)), some (.s c), some x, some (.lst (dStrs (oth cs c))), some (.lst (dBls (mkL G (worL G bad c)))), some (.dT kX), some (.adr fa), some (.adr ba), none, none, u13, u14, u15, u16] ∧ M2 = mset M' ba (.lst (dBls ((List.range i).map (betL G good bad c kT kX)))), ⟨_, _, _, _, rfl, rfl⟩, ?_, ?_⟩
  · rintro a d Γ' M2 hd ⟨u13, u14, u15, u16, rfl, rfl⟩
    have ha : a < G.edges.length := by
      have := (List.getElem?_eq_some_iff.mp hd).1
      unfold enumD at this
      simpa using this
    have hga : good[a]? = some (good[a]'(by omega)) := List.getElem?_eq_getElem (by omega)
    have hbda : bad[a]? = some (bad[a]'(by omega)) := List.getElem?_eq_getElem (by omega)
    have hea : G.edges[a]? = some G.edges[a] := List.getElem?_eq_getElem ha
    have hgd : good.getD a false = good[a]'(by omega) := by rw [List.getD_eq_getElem?_getD, hga]; rfl
    have hbd : bad.getD a false = bad[a]'(by omega) := by rw [List.getD_eq_getElem?_getD, hbda]; rfl
    have had : G.ad a = G.edges[a].added := by unfold Gme.ad; rw [hea]; rfl
    have htk : G.tk a = G.edges[a].taken := by unfold Gme.tk; rw [hea]; rfl
    have htg : G.tg a = G.edges[a].tgt := by unfold Gme.tg; rw [hea]; rfl
    have hd2 : d = .tup [.i ((a : Nat) : Int), dEdge G.edges[a]] := by
      unfold enumD at hd
      rw [List.length_map, List.getElem?_map, List.getElem?_range ha] at hd
      cases hd
      show Dt.tup [.i ((a : Nat) : Int), (G.edges.map dEdge).getD a .non] = _
      rw [List.getD_eq_getElem?_getD, List.getElem?_map, hea]
      rfl
    have hvb : vw (mset M' ba (.lst (dBls ((List.range a).map (betL G good bad c kT kX))))) x = .dT kT := by
      refine vw_le (M := M) (fun b e hb => ?_) hv (fun b e => nomatch e)
      rw [mset_ne]
      · exact hMM b e hb
      · rintro rfl
        rw [hMb] at hb
        cases hb
    generalize good[a]'(by omega) = gb at hga hgd
    generalize bad[a]'(by omega) = bb at hbda hbd
    generalize G.edges[a] = e at hea had htk htg hd2
    subst hd2
    have hlen : (dBls ((List.range a).map (betL G good bad c kT kX))).length ≤ 100000 := by simp [dBls]; omega
    have stepM : ∀ b, b = betL G good bad c kT kX a → mset (mset M' ba (.lst (dBls ((List.range a).map (betL G good bad c kT kX))))) ba (.lst (dBls ((List.range a).map (betL G good bad c kT kX)) ++ [.b b])) = mset M' ba (.lst (dBls ((List.range (a + 1)).map (betL G good bad c kT kX)))) := by
      rintro b rfl
      rw [mset_mset, List.range_succ]
      simp [dBls]
    refine g_tup ⟨_, rfl, rfl, ?_⟩
    refine g_cons ?_
    refine g_name ?_
    refine g_cons ?_
    refine g_name ?_
    refine g_nil ?_
    -- lessened
    refine r_seqI (fun Γ' M2 => Γ' = [some (dGame K G), some (.lst (dBls good)), some (.lst (dBls bad)), some (.lst (dStrs cs)), some (.s c), some x, some (.lst (dStrs (oth cs c))), some (.lst (dBls (mkL G (worL G bad c)))), some (.dT kX), some (.adr fa), some (.adr ba), none, none, some (.i ((a : Nat) : Int)), some (dEdge e), some (.b (decide (c ∈ e.taken) && !decide (c ∈ e.added))), u16] ∧ M2 = mset M' ba (.lst (dBls ((List.range a).map (betL G good bad c kT kX))))) ?_ ?_
    · walk_at "sy"
      refine o_ixT (n := 1) (d := .tup (dStrs e.taken)) rfl ?_
      refine o_inS (.inr rfl) ⟨_, rfl, iB (fun e1 => ?_) (fun e1 => ?_)⟩
      · simp only [Bool.false_eq_true, if_false] at e1
        walk_at "sy"
        refine o_ixT (n := 2) (d := .tup (dStrs e.added)) rfl ?_
        refine o_inS (.inr rfl) ?_
        walk_at "sy"
        refine ⟨?_, rfl⟩
        rw [e1]
        rfl
      · simp only [Bool.false_eq_true, if_false] at e1
        walk_at "sy"
        refine ⟨?_, rfl⟩
        rw [e1]
        rfl
    rintro Γ' M2 ⟨rfl, rfl⟩
    let led : Bool := match e.tgt with | some t => (lookA kT t).isSome || (decide (c ∈ e.taken) && !decide (c ∈ e.added) && (lookA kX t).isSome) | none => false
    have hbet : betL G good bad c kT kX a = (gb || (!bb && led)) := by unfold betL; rw [hgd, hbd, htg, htk, had]
    refine r_seqI (fun Γ' M2 => Γ' = [some (dGame K G), some (.lst (dBls good)), some (.lst (dBls bad)), some (.lst (dStrs cs)), some (.s c), some x, some (.lst (dStrs (oth cs c))), some (.lst (dBls (mkL G (worL G bad c)))), some (.dT kX), some (.adr fa), some (.adr ba), none, none, some (.i ((a : Nat) : Int)), some (dEdge e), some (.b (decide (c ∈ e.taken) && !decide (c ∈ e.added))), some (.b led)] ∧ M2 = mset M' ba (.lst (dBls ((List.range a).map (betL G good bad c kT kX))))) ?_ ?_
    · refine r_asg (e_orV (e_dinN ?_))
      walk_at "sy"
      refine o_ixT (n := 0) (d := dTgt e.tgt) rfl ?_
      walk_at "sy"
      refine ⟨_, hvb, ?_⟩
      cases ht : e.tgt with
      | none =>
        refine .inr ⟨rfl, _, rfl, iF rfl ?_⟩
        walk_at "sy"
        refine iB (fun e2 => ?_) (fun e2 => ?_)
        · refine e_dinN ?_
          walk_at "sy"
          refine o_ixT (n := 0) (d := dTgt e.tgt) rfl ?_
          rw [ht]
          walk_at "sy"
          refine .inr ⟨rfl, ?_⟩
          walk_at "sy"
          refine ⟨?_, rfl⟩
          have : led = false := by show (match e.tgt with | some t => _ | none => false) = false; rw [ht]
          rw [this]
          rfl
        · walk_at "sy"
          refine ⟨?_, rfl⟩
          have : led = false := by show (match e.tgt with | some t => _ | none => false) = false; rw [ht]
          rw [this]
          rfl
      | some tt =>
        have hled : led = ((lookA kT tt).isSome || (decide (c ∈ e.taken) && !decide (c ∈ e.added) && (lookA kX tt).isSome)) := by show (match e.tgt with | some t => _ | none => false) = _; rw [ht]
        refine .inl ⟨tt, rfl, _, rfl, iB (fun e1 => ?_) (fun e1 => ?_)⟩
        · walk_at "sy"
          refine ⟨?_, rfl⟩
          rw [hled, e1]
          rfl
        · walk_at "sy"
          refine iB (fun e2 => ?_) (fun e2 => ?_)
          · refine e_dinN ?_
            walk_at "sy"
            refine o_ixT (n := 0) (d := dTgt e.tgt) rfl ?_
            rw [ht]
            walk_at "sy"
            refine .inl ⟨tt, rfl, ?_⟩
            walk_at "sy"
            refine ⟨?_, rfl⟩
            rw [hled, e1, e2]
            rfl
          · walk_at "sy"
            refine ⟨?_, rfl⟩
            rw [hled, e1, e2]
            rfl
    rintro Γ' M2 ⟨rfl, rfl⟩
    walk_at "sy"
    refine ⟨_, vw_adr mset_same, ?_⟩
    walk_at "sy"
    refine o_ixL (n := a) (d := .b gb) rfl (by unfold dBls; rw [List.getElem?_map, hga]; rfl) ⟨_, rfl, iB (fun e1 => ?_) (fun e1 => ?_)⟩
    · walk_at "sy"
      exact m_app mset_same hlen ⟨_, _, _, _, rfl, stepM _ (by rw [hbet, e1]; rfl)⟩
    · walk_at "sy"
      refine o_ixL (n := a) (d := .b bb) rfl (by unfold dBls; rw [List.getElem?_map, hbda]; rfl) ⟨_, rfl, _, rfl, iB (fun e2 => ?_) (fun e2 => ?_)⟩
      · walk_at "sy"
        exact m_app mset_same hlen ⟨_, _, _, _, rfl, stepM _ (by rw [hbet, e1]; rw [show (!bb) = true from e2]; rfl)⟩
      · walk_at "sy"
        exact m_app mset_same hlen ⟨_, _, _, _, rfl, stepM _ (by rw [hbet, e1]; rw [show (!bb) = false from e2]; rfl)⟩
  · rintro Γ' M2 ⟨u13, u14, u15, u16, rfl, rfl⟩
    have e3 : (enumD (G.edges.map dEdge)).length = G.edges.length := by unfold enumD; simp
    rw [e3]
    have hbg : gP (mkL G (betL G good bad c kT kX)) = Btr G (gP good) (gP bad) c (inK kT) (inK kX) := bet_gP hgl
    have hwg : gP (mkL G (worL G bad c)) = Wrs G (gP bad) c := wor_gP hbl
    refine r_seq (r_drop (e_bm ?_))
    refine e_var rfl ⟨ds', vw_adr (by rw [mset_ne hbf.symm]; exact hMf), ?_⟩
    refine a_cons (e_call0 ?_)
    refine a_cons (e_var rfl ?_)
    refine a_cons (e_frz (e_var rfl ⟨ba, _, rfl, mset_same, ?_⟩))
    rw [mdel_mset hba0]
    walk_at "sy"
    refine ⟨(G, mkL G (betL G good bad c kT kX), mkL G (worL G bad c), oth cs c), ⟨rfl, hG, mkL_len, mkL_len, fun a ha h => ?_, by omega, by omega, hL⟩, ?_⟩
    · rw [hbg]
      exact .inl (hgn a ha h)
    rintro d M2 ⟨rfl, kv, rest, rfl, hkn, hkw⟩
    rw [hbg, hwg] at hkw
    have hkw : ∀ s, inK kv s ↔ F (inK kX) s := hkw
    have hkX : ∀ s, inK kv s → inK kX s := fun s hs => hJ.2.2.1 s ((hkw s).mp hs)
    have hkl : kv.length ≤ kX.length := by
      have := nodup_le hkn fun s hs => hkX s hs
      simpa using this
    have hgr : ∀ X : Sts, (∀ s, X s → s ∈ G.order ∧ F X s) → ∀ s, X s → inK kv s := fun X hX s hs => (hkw s).mpr (Fm (hJ.2.2.2 X hX) s (hX s hs).2)
    walk_at "sy"
    refine m_app hMf (by omega) ?_
    walk_at "sy"
    refine o_neg ?_
    refine o_ixEnd (ds := ds') (d := .tup (.dT kv :: rest)) (vw_adr mset_same) ?_
    walk_at "sy"
    refine o_ixT (n := 0) (d := .dT kv) rfl ?_
    walk_at "sy"
    refine c_lenT (kvs := kv) rfl hL ?_
    walk_at "sy"
    refine c_lenT (kvs := kX) rfl hL ?_
    refine o_eq rfl rfl rfl ⟨_, rfl, iB (fun e => ?_) (fun e => ?_)⟩
    · have e : ((kv.length : Nat) : Int) = ((kX.length : Nat) : Int) := V.int.inj (of_decide_eq_true e)
      have hsame : ∀ s, inK kX s → inK kv s := fun s hs => sub_eq hkn (fun s hs => hkX s hs) (by rw [List.length_map, List.length_map]; omega) s hs
      walk_at "sy"
      refine ⟨_, M, (VwD.frz mset_same).thenM (VwM.less fun b d hb => ?_), rfl, ds', kv, rest, rfl, hkn, fun s hs => ⟨win_in ((hkw s).mp hs), Fm hsame s ((hkw s).mp hs)⟩, hgr⟩
      have hbn : b ≠ fa := by
        rintro rfl
        rw [hfa] at hb
        cases hb
      rw [mdel_ne hbn, mset_ne hbn]
      exact hMM b d hb
    · have e : ¬ ((kv.length : Nat) : Int) = ((kX.length : Nat) : Int) := fun z => of_decide_eq_false e (congrArg V.int z)
      walk_at "sy"
      refine o_neg ?_
      refine o_ixEnd (ds := ds') (d := .tup (.dT kv :: rest)) (vw_adr mset_same) ?_
      walk_at "sy"
      refine o_ixT (n := 0) (d := .dT kv) rfl ?_
      walk_at "sy"
      refine ⟨kv.length, by omega, _, _, _, _, _, kv, ds' ++ [.tup (.dT kv :: rest)], rfl, mset_same, fun b d hb => ?_, ⟨hkn, fun s hs => win_in ((hkw s).mp hs), fun s hs => ?_, hgr⟩, rfl, by rw [List.length_append]; simp; omega⟩
      · rw [mset_ne]
        · exact hMM b d hb
        · rintro rfl
          rw [hfa] at hb
          cases hb
      · exact (hkw s).mpr (Fm hkX s hs)
end
end K85
set_option maxRecDepth 100000
set_option maxHeartbeats 4000000
/-! the solver: won sets -/
namespace K85
open PySem L2
open C8 (Cal Met Mak pe_c pe_mk pe_mt pe_mt0 pe_gc)
local macro_rules | `(tactic| walk_at "sy1") => `(tactic| with_reducible first
  | refine r_seq ?_ | refine r_if ?_ | refine r_ret ?_ | refine r_retN ?_ | refine r_asg ?_ | refine r_drop ?_ | refine r_brk ?_ | refine r_cont ?_ | refine r_fld ?_ | refine r_dput ?_ | refine r_for ?_ | refine r_next ?_
  | refine g_name ?_ | refine g_tup ?_ | refine g_unl ?_ | refine g_cons ?_ | refine g_nil ?_
  | refine t_test ?_ | refine t_B ?_ | refine t_not ?_ | refine t_and ?_ | refine t_or ?_ | refine t_yes ?_
  | refine e_var rfl ?_ | refine e_int ?_ | refine e_str ?_ | refine e_bl ?_ | refine e_non ?_ | refine e_ref ?_ | refine e_op ?_ | refine e_un ?_ | refine e_andV ?_ | refine e_orV ?_ | refine e_notV ?_ | refine e_if ?_ | refine e_isN ?_ | refine e_notN ?_
  | refine e_tup ?_ | refine e_fld ?_ | refine e_call0 ?_ | refine e_meth0 ?_ | refine e_cb ?_ | refine e_bm ?_ | refine e_dget ?_ | refine e_dget1 ?_ | refine e_din ?_ | refine e_dnotin ?_ | refine e_chain ?_ | refine e_fcall ?_ | refine e_sm ?_
  | refine a_nil ?_ | refine a_cons ?_ | refine i_list ?_ | refine i_tup ?_ | refine i_seq ?_ | refine i_rng1 ?_ | refine i_str ?_
  | refine s_none ?_ | refine s_some ?_ | refine e_slL ?_ | refine e_slT ?_
  | refine o_II ?_ | refine o_IB ?_)
local macro_rules | `(tactic| walk_at "sy") => `(tactic| repeat (first | walk_at "sy1" | refine ⟨_, rfl, ?_⟩ | refine ⟨(rfl : List.lookup _ _ = none), ?_⟩))
local macro_rules | `(tactic| walk_at "eqF") => `(tactic| (refine o_eq rfl rfl rfl ?_; walk_at "sy"; refine iF (by decide +kernel) ?_; walk_at "sy"))
local macro_rules | `(tactic| walk_at "eqT") => `(tactic| (refine o_eq rfl rfl rfl ?_; walk_at "sy"; refine iT (by decide +kernel) ?_; walk_at "sy"))
local macro_rules | `(tactic| walk_at "pureEnd") => `(tactic| (rintro d M' ⟨rfl, rfl⟩))
theorem putA_len {κ : Type} [DecidableEq κ] (kvs : List (κ × Dt)) (k : κ) (v : Dt) : (putA kvs k v).length ≤ kvs.length + 1 := by
  unfold putA
  split <;> simp
section
variable {P : Program} {w : World} {K : PySem.W.Frag} {mg : Str → Option Value} {base : Heap}
theorem ok_won1 (T : Tx K mg) (D : Df K mg "won_by" s_won_by) (n : Nat) (cC : Cal P w K mg base 2 "close_table" (S_close K).sp []) (cF : Cal P w K mg base (2 * n + 3) "falling_of" (S_fall K n).sp []) : Cal P w K mg base (2 * n + 4) "won_by" (S_won K n).sp [] := by
  refine cal_sym D sc_won_by (fun _ _ _ _ _ _ us hl => match us, hl with | [_, _, _, _], _ => rfl) (fun a ds L M h => by obtain ⟨rfl, _⟩ := h; rfl) (fun f cdv A outer s H E hr => ⟨_, pss_cons (ps_set (i := 4) sc_won_by.nd rfl (Or.inr rfl) pe_dnewT) (pss_cons (ps_set (i := 5) sc_won_by.nd rfl (Or.inl rfl) pe_dnewK) (pss_cons (ps_set (i := 6) sc_won_by.nd rfl (Or.inl rfl) pe_bl) (pss_cons (ps_while PassesOwn.never (pt_val (pv 6)) (pss_cons (ps_expr (pe_c cC hr (by omega) rfl (pa_cons (pv 0) (pa_cons (pv 1) (pa_cons (pv 2) (pa_cons (pv 4) pa_nil)))))) (pss_cons (ps_set (i := 6) sc_won_by.nd rfl (Or.inl rfl) pe_bl) (pss_cons (ps_set (i := 5) sc_won_by.nd rfl (Or.inl rfl) pe_dnewK) (pss_one (ps_for PassesOwn.never rfl (pi_list (pv 3)) (pg_name (i := 7) sc_won_by.nd rfl (Or.inl rfl)) (pss_cons (ps_set (i := 8) sc_won_by.nd rfl (Or.inl rfl) (pe_c cF hr (by omega) rfl (pa_cons (pv 0) (pa_cons (pv 1) (pa_cons (pv 2) (pa_cons (pv 3) (pa_cons (pv 7) (pa_cons (pv 4) pa_nil)))))))) (pss_cons (ps_dput (hu_of hr) (pv 5) (pv 7) (pv 8) rfl) (pss_cons (ps_lock (ps_setLc (i := 9) (own := [("state", 10)]) rfl sc_won_by.nd rfl rfl (sw_true rfl rfl rfl (by decide +kernel)) (pi_keys (pe_ix ix_tup (pe_ix ix_list (pv 8) (pe_un un_neg pe_int) (fun _ _ => rfl)) pe_int (fun _ _ => rfl))) (blkOk_by (own := [("state", 10)]) (N := ["game", "good", "bad", "counters", "table", "record", "grown", "counter", "falls", "fresh", "state"]) (sc := defScope s_won_by) (by decide +kernel)) (fun _ _ _ _ _ => (pg_name (i := 10) sc_won_by.nd rfl (Or.inl rfl))) (fun _ _ _ _ _ => (pts_one (pt_cmp (pc_dnotin (hu_of hr) (pv 10) (pv 4)) rfl))) (fun _ _ _ _ _ => (pv 10)))) (pss_one (ps_if (pt_cmpR op_gt (pe_callB call_len_seq (by rfl) T.f_len (by decide +kernel) (pa_cons (pv 9) pa_nil)) pe_int (nomark _)) (pss_cons (ps_for PassesOwn.never rfl (pi_list (pv 9)) (pg_name (i := 10) sc_won_by.nd rfl (Or.inl rfl)) (pss_one (ps_dput (hu_of hr) (pv 4) (pv 10) (pe_dget (hu_of hr) (pe_ix ix_tup (pe_ix ix_list (pv 8) (pe_un un_neg pe_int) (fun _ _ => rfl)) pe_int (fun _ _ => rfl)) (pv 10) (fun _ _ => rfl)) rfl))) (pss_cons (ps_set (i := 6) sc_won_by.nd rfl (Or.inl rfl) pe_bl) (pss_one ps_break))) pss_nil))))))))))) (pss_one (ps_ret (pe_tup (pa_cons (pv 4) (pa_cons (pv 1) (pa_cons (pv 2) (pa_cons (pv 5) pa_nil)))))))))), fun (G, good, bad, cs) ds L M h => ?_⟩)
  obtain ⟨rfl, hG, hgl, hbl, hgn, hcn, hc8, hL⟩ := h
  let Sp : List (List Str × Dt) → Prop := fun kv => (kv.map (·.1)).Nodup ∧ (∀ s, inK kv s → s ∈ G.order) ∧ ∀ T : Sts, Clo G n (gP good) (gP bad) cs T → ∀ s, inK kv s → T s
  have SpLen : ∀ kv, Sp kv → kv.length ≤ 16 := fun kv h => by
    have := nodup_le h.1 fun s hs => h.2.1 s hs
    rw [List.length_map] at this
    have := hG.len
    omega
  walk_at "sy"
  refine e_dnewT fun t ht => ?_
  walk_at "sy"
  refine e_dnewK fun r0 hr0 => ?_
  have htr : r0 ≠ t := by
    rintro rfl
    rw [mset_same] at hr0
    cases hr0
  walk_at "sy"
  refine r_while (fun m Γ' M' => ∃ rc g u7 u8 u9 u10 kv kr, Γ' = [some (dGame K G), some (.lst (dBls good)), some (.lst (dBls bad)), some (.lst (dStrs cs)), some (.adr t), some (.adr rc), some (.b g), u7, u8, u9, u10] ∧ M' t = some (.dT kv) ∧ M' rc = some (.dK kr) ∧ M rc = none ∧ rc ≠ t ∧ (∀ b e, M b = some e → M' b = some e) ∧ Sp kv ∧ (g = false → Clo G n (gP good) (gP bad) cs (inK kv)) ∧ m = (16 - kv.length) * 2 + (if g then 1 else 0)) _ ⟨r0, true, none, none, none, none, [], [], rfl, ?_, ?_, ?_, ?_, ?_, ?_, (fun e => nomatch e), rfl⟩ ?_
  · rw [mset_ne htr.symm]
    exact mset_same
  · exact mset_same
  · rw [mset_ne htr] at hr0
    exact hr0
  · exact htr
  · intro b e hb
    rw [mset_ne, mset_ne]
    · exact hb
    · rintro rfl
      rw [ht] at hb
      cases hb
    · rintro rfl
      rw [mset_ne htr, hb] at hr0
      cases hr0
  · exact ⟨by simp, fun s hs => by simp [inK] at hs, fun T _ s hs => by simp [inK] at hs⟩
  rintro m Γ' M' ⟨rc, g, u7, u8, u9, u10, kv, kr, rfl, hMt, hMr, hrcn, hrct, hMM, hS, hcl, rfl⟩
  walk_at "sy"
  refine iB (fun e => ?_) (fun e => ?_)
  · subst e
    walk_at "sy"
    refine ⟨(G, good, bad, kv, t), ⟨rfl, hMt, hG, hgl, hbl, hgn, hS.1, hS.2.1⟩, ?_⟩
    rintro d M1 ⟨rfl, kv1, rfl, hn1, hs1, hi1, hf1, hm1⟩
    have hS1 : Sp kv1 := ⟨hn1, hs1, fun T hT s hs => hm1 T hT.1 (hS.2.2 T hT) s hs⟩
    have hl1 : kv.length ≤ kv1.length := by
      have := nodup_le hS.1 fun s hs => hi1 s hs
      simpa using this
    have hl16 := SpLen _ hS1
    walk_at "sy"
    refine e_dnewK fun r1 hr1 => ?_
    have hrt : r1 ≠ t := by
      rintro rfl
      rw [mset_same] at hr1
      cases hr1
    rw [mset_ne hrt] at hr1
    have hr1M : M r1 = none := by
      cases q : M r1 with
      | none => rfl
      | some e =>
        rw [hMM r1 e q] at hr1
        cases hr1
    walk_at "sy"
    refine ⟨fun i Γ' M2 => ∃ u7 u8 u9 u10 kr, Γ' = [some (dGame K G), some (.lst (dBls good)), some (.lst (dBls bad)), some (.lst (dStrs cs)), some (.adr t), some (.adr r1), some (.b false), u7, u8, u9, u10] ∧ M2 = mset (mset M' t (.dT kv1)) r1 (.dK kr) ∧ kr.length ≤ i ∧ ∀ c ∈ cs.take i, ∀ X : Sts, (∀ s, X s → s ∈ G.order ∧ Win G (n - 1) (Btr G (gP good) (gP bad) c (inK kv1) X) (Wrs G (gP bad) c) (oth cs c) s) → ∀ s, X s → inK kv1 s, ⟨_, _, _, _, [], rfl, rfl, by simp, by simp⟩, ?_, ?_⟩
    · rintro i d Γ' M2 hd ⟨u7, u8, u9, u10, kr, rfl, rfl, hkr, hall⟩
      obtain ⟨c, hc, rfl⟩ := at_map hd
      have hcm := List.mem_of_getElem? hc
      have hil := (List.getElem?_eq_some_iff.mp hc).1
      have hvt : ∀ kr, vw (mset (mset M' t (.dT kv1)) r1 (.dK kr)) (.adr t) = .dT kv1 := fun kr => vw_adr (by rw [mset_ne hrt.symm]; exact mset_same)
      walk_at "sy"
      refine ⟨(G, good, bad, cs, c, kv1), ⟨⟨_, rfl, hvt kr⟩, hG, hgl, hbl, hgn, hcm, hcn, hc8, hL⟩, ?_⟩
      rintro d M3 ⟨rfl, ds, kvs, rest, rfl, hkn, hkw, hkg⟩
      walk_at "sy"
      refine .inl ⟨_, _, mset_same, rfl, by omega, ?_⟩
      rw [mset_mset]
      have hpl : (putA kr c (.lst (ds ++ [.tup (.dT kvs :: rest)]))).length ≤ i + 1 := by
        have := putA_len kr c (.lst (ds ++ [.tup (.dT kvs :: rest)]))
        omega
      generalize putA kr c (.lst (ds ++ [.tup (.dT kvs :: rest)])) = kr2 at hpl
      have hkl : kvs.length ≤ 16 := by
        have := nodup_le hkn fun s hs => (hkw s hs).1
        rw [List.length_map] at this
        have := hG.len
        omega
      walk_at "sy"
      refine r_lockM (α := List Str) (src := kvs.map (·.1)) (f := fun s => .tup (dStrs s)) (yes := fun s => !(lookA kv1 s).isSome) (val := fun s => .tup (dStrs s)) false (wo_name (by decide)) (.inr ⟨_, rfl⟩) (loc_end (i := 8) rfl (.inr ⟨_, rfl⟩)) (unl0 hL) (lkd_f (.inr ⟨_, rfl⟩)) ?_ (by rw [List.length_map]; omega) (fun L' a od e1 e2 s hs => ?_) ?_
      · show kvs.map (fun kv => Dt.tup (dStrs kv.1)) = _
        rw [List.map_map]
        rfl
      · intro M' l
        walk_at "sy"
        refine ⟨rfl, ?_⟩
        walk_at "sy"
        refine .inr ⟨_, _, vw_le l (hvt _) (fun b e => nomatch e), rfl, ?_⟩
        refine ⟨_, rfl, rfl, rfl, fun _ => ?_⟩
        walk_at "sy"
        exact ⟨rfl, rfl⟩
      let fr : List (List Str) := (kvs.map (·.1)).filter fun s => !(lookA kv1 s).isSome
      have hfr : ∀ s, s ∈ fr ↔ inK kvs s ∧ ¬ inK kv1 s := fun s => by
        show s ∈ List.filter _ _ ↔ _
        rw [List.mem_filter, Bool.not_eq_true', ← Bool.not_eq_true, inK_look]
        rfl
      have hfn : fr.Nodup := hkn.filter _
      have hfl : fr.length ≤ 16 := by
        have : fr.length ≤ (kvs.map (·.1)).length := List.length_filter_le _ _
        rw [List.length_map] at this
        omega
      walk_at "sy"
      refine c_len (.inl rfl) ?_
      walk_at "sy"
      refine iB (fun e => ?_) (fun e => ?_)
      · walk_at "sy"
        refine ⟨fun j Γ' M2 => ∃ u10 kv2, Γ' = [some (dGame K G), some (.lst (dBls good)), some (.lst (dBls bad)), some (.lst (dStrs cs)), some (.adr t), some (.adr r1), some (.b false), some (.s c), some (.lst (ds ++ [.tup (.dT kvs :: rest)])), some (.lst (fr.map fun s => .tup (dStrs s))), u10] ∧ M2 = mset (mset (mset M' t (.dT kv1)) r1 (.dK kr2)) t (.dT kv2) ∧ (kv2.map (·.1)).Nodup ∧ (∀ s, inK kv2 s ↔ inK kv1 s ∨ s ∈ fr.take j) ∧ kv2.length = kv1.length + j, ⟨_, kv1, rfl, ?_, hn1, by simp, rfl⟩, ?_, ?_⟩
        · rw [mset_comm hrt, mset_mset]
        · rintro j d Γ' M2 hd ⟨u10, kv2, rfl, rfl, hn2, hi2, hl2⟩
          obtain ⟨s, hs, rfl⟩ := at_map hd
          have hsm := (hfr s).mp (List.mem_of_getElem? hs)
          have hjl : j < fr.length := (List.getElem?_eq_some_iff.mp hs).1
          have hnot : ¬ inK kv2 s := fun z => by
            rcases (hi2 s).mp z with z | z
            · exact hsm.2 z
            · obtain ⟨k, hk, ek⟩ := List.mem_take_iff_getElem.mp z
              have hk' : k < fr.length := by omega
              have := (List.getElem_inj (h₀ := hk') (h₁ := hjl) hfn).mp (by rw [ek, (List.getElem?_eq_some_iff.mp hs).2])
              omega
          obtain ⟨y, hy⟩ : ∃ y, lookA kvs s = some y := Option.isSome_iff_exists.mp (inK_look.mpr hsm.1)
          walk_at "sy"
          refine o_neg ?_
          refine o_ixEnd (ds := ds) (d := .tup (.dT kvs :: rest)) rfl ?_
          walk_at "sy"
          refine o_ixT (n := 0) (d := .dT kvs) rfl ?_
          walk_at "sy"
          refine .inr ⟨_, _, rfl, rfl, ?_⟩
          refine ⟨y, hy, ?_⟩
          walk_at "sy"
          refine .inr ⟨kv2, s, mset_same, rfl, by omega, ?_⟩
          rw [mset_mset, inK_put hnot]
          walk_at "sy"
          refine ⟨_, _, rfl, rfl, ?_, fun z => ?_, ?_⟩
          · rw [List.map_append]
            refine List.nodup_append.mpr ⟨hn2, by simp, fun a ha b hb => ?_⟩
            simp at hb
            subst hb
            rintro rfl
            exact hnot ha
          · rw [inK_app, hi2, take_one hs, List.mem_append, List.mem_singleton, or_assoc]
          · rw [List.length_append]
            simp
            omega
        · rintro Γ' M2 ⟨u10, kv2, rfl, rfl, hn2, hi2, hl2⟩
          have e1 : (fr.map fun s => Dt.tup (dStrs s)).length = fr.length := List.length_map _
          rw [e1] at hl2 hi2
          rw [List.take_length] at hi2
          have hpos : 0 < fr.length := by
            have : (0 : Int) < ((fr.map fun s => Dt.tup (dStrs s)).length : Int) := of_decide_eq_true e
            rw [e1] at this
            omega
          have hS2 : Sp kv2 := ⟨hn2, fun s hs => ?_, fun T hT s hs => ?_⟩
          · have hl2' := SpLen _ hS2
            walk_at "sy"
            refine ⟨_, ?_, r1, true, _, _, _, _, kv2, kr2, rfl, mset_same, ?_, hr1M, hrt, fun b e hb => ?_, hS2, (fun e => nomatch e), rfl⟩
            · simp
              omega
            · rw [mset_ne hrt]
              exact mset_same
            · rw [mset_ne, mset_ne, mset_ne]
              · exact hMM b e hb
              · rintro rfl
                rw [ht] at hb
                cases hb
              · rintro rfl
                rw [hr1M] at hb
                cases hb
              · rintro rfl
                rw [ht] at hb
                cases hb
          · rcases (hi2 s).mp hs with h | h
            · exact hs1 s h
            · exact (hkw s ((hfr s).mp h).1).1
          · have hk1 := hS1.2.2 T hT
            rcases (hi2 s).mp hs with h | h
            · exact hk1 s h
            · obtain ⟨k, rfl⟩ : ∃ k, n = k + 1 := ⟨n - 1, by omega⟩
              refine hT.2 k rfl c hcm (inK kvs) (fun s hs => ⟨(hkw s hs).1, ?_⟩) s ((hfr s).mp h).1
              exact win_mono (Btr.mono (fun _ h => h) (fun _ h => h) hk1 fun _ h => h) (fun _ h => h) s (hkw s hs).2
      · walk_at "sy"
        refine ⟨_, _, _, _, kr2, rfl, rfl, hpl, fun c' hc' X hX s hs => ?_⟩
        rw [take_one hc, List.mem_append, List.mem_singleton] at hc'
        rcases hc' with hc' | rfl
        · exact hall c' hc' X hX s hs
        · have hk := hkg X hX s hs
          refine Classical.byContradiction fun hn => ?_
          have hm := (hfr s).mpr ⟨hk, hn⟩
          have : ¬ (0 : Int) < ((fr.map fun s => Dt.tup (dStrs s)).length : Int) := of_decide_eq_false e
          rw [List.length_map] at this
          have := List.length_pos_of_mem hm
          omega
    · rintro Γ' M2 ⟨u7, u8, u9, u10, kr, rfl, rfl, hkr, hall⟩
      refine ⟨_, ?_, r1, false, _, _, _, _, kv1, kr, rfl, ?_, mset_same, hr1M, hrt, fun b e hb => ?_, hS1, fun _ => ⟨hf1, fun m hm c hc X hX s hs => ?_⟩, rfl⟩
      · simp
        omega
      · rw [mset_ne hrt.symm]
        exact mset_same
      · rw [mset_ne, mset_ne]
        · exact hMM b e hb
        · rintro rfl
          rw [ht] at hb
          cases hb
        · rintro rfl
          rw [hr1M] at hb
          cases hb
      · subst hm
        have e1 : (dStrs cs).length = cs.length := by simp [dStrs]
        rw [e1, List.take_length] at hall
        exact hall c hc X hX s hs
  · subst e
    have hC := hcl rfl
    refine Run.post ?_
    refine r_ret ?_
    refine e_tup ?_
    refine a_cons (e_frz (e_var rfl ⟨t, _, rfl, hMt, ?_⟩))
    refine a_cons (e_var rfl ?_)
    refine a_cons (e_var rfl ?_)
    refine a_cons (e_frz (e_var rfl ⟨rc, _, rfl, by rw [mdel_ne hrct]; exact hMr, ?_⟩))
    refine a_nil ?_
    refine ⟨by simp, ?_⟩
    refine ⟨_, M, VwM.val (VwM.less fun b d hb => ?_), rfl, kv, _, rfl, hS.1, fun s => ?_⟩
    · rw [mdel_ne, mdel_ne]
      · exact hMM b d hb
      · rintro rfl
        rw [ht] at hb
        cases hb
      · rintro rfl
        rw [hrcn] at hb
        cases hb
    · rw [win_iff]
      exact ⟨fun hs T hT => hS.2.2 T hT s hs, fun h => h _ hC⟩
theorem ok_wonfall (T : Tx K mg) (DW : Df K mg "won_by" s_won_by) (DF : Df K mg "falling_of" s_falling_of) (cC : Cal P w K mg base 2 "close_table" (S_close K).sp []) : ∀ n, Cal P w K mg base (2 * n + 4) "won_by" (S_won K n).sp []
  | 0 => ok_won1 T DW 0 cC (ok_fall T DF 0 fun m e => nomatch e)
  | n + 1 => ok_won1 T DW (n + 1) cC (ok_fall T DF (n + 1) fun m e => by cases e; exact ok_wonfall T DW DF cC n)
end
end K85
set_option maxRecDepth 100000
set_option maxHeartbeats 4000000
/-! the solver: solve_game, won_states -/
namespace K85
open PySem L2
open C8 (Cal Met Mak pe_c pe_mk pe_mt pe_mt0 pe_gc)
local macro_rules | `(tactic| walk_at "sy1") => `(tactic| with_reducible first
  | refine r_seq ?_ | refine r_if ?_ | refine r_ret ?_ | refine r_retN ?_ | refine r_asg ?_ | refine r_drop ?_ | refine r_brk ?_ | refine r_cont ?_ | refine r_fld ?_ | refine r_dput ?_ | refine r_for ?_ | refine r_next ?_
  | refine g_name ?_ | refine g_tup ?_ | refine g_unl ?_ | refine g_cons ?_ | refine g_nil ?_
  | refine t_test ?_ | refine t_B ?_ | refine t_not ?_ | refine t_and ?_ | refine t_or ?_ | refine t_yes ?_
  | refine e_var rfl ?_ | refine e_int ?_ | refine e_str ?_ | refine e_bl ?_ | refine e_non ?_ | refine e_ref ?_ | refine e_op ?_ | refine e_un ?_ | refine e_andV ?_ | refine e_orV ?_ | refine e_notV ?_ | refine e_if ?_ | refine e_isN ?_ | refine e_notN ?_
  | refine e_tup ?_ | refine e_fld ?_ | refine e_call0 ?_ | refine e_meth0 ?_ | refine e_cb ?_ | refine e_bm ?_ | refine e_dget ?_ | refine e_dget1 ?_ | refine e_din ?_ | refine e_dnotin ?_ | refine e_chain ?_ | refine e_fcall ?_ | refine e_sm ?_
  | refine a_nil ?_ | refine a_cons ?_ | refine i_list ?_ | refine i_tup ?_ | refine i_seq ?_ | refine i_rng1 ?_ | refine i_str ?_
  | refine s_none ?_ | refine s_some ?_ | refine e_slL ?_ | refine e_slT ?_
  | refine o_II ?_ | refine o_IB ?_)
local macro_rules | `(tactic| walk_at "sy") => `(tactic| repeat (first | walk_at "sy1" | refine ⟨_, rfl, ?_⟩ | refine ⟨(rfl : List.lookup _ _ = none), ?_⟩))
local macro_rules | `(tactic| walk_at "eqF") => `(tactic| (refine o_eq rfl rfl rfl ?_; walk_at "sy"; refine iF (by decide +kernel) ?_; walk_at "sy"))
local macro_rules | `(tactic| walk_at "eqT") => `(tactic| (refine o_eq rfl rfl rfl ?_; walk_at "sy"; refine iT (by decide +kernel) ?_; walk_at "sy"))
local macro_rules | `(tactic| walk_at "pureEnd") => `(tactic| (rintro d M' ⟨rfl, rfl⟩))
abbrev s_solve_game : Stmt := top 7
theorem sc_solve_game : FnScope ["game", "good", "edge"] ["game"] (defScope s_solve_game) := ⟨rfl, rfl, rfl, by decide +kernel, rfl, by decide +kernel, by decide +kernel⟩
abbrev s_won_states : Stmt := top 33
theorem sc_won_states : FnScope ["task", "without", "game", "table", "goals", "state"] ["task", "without"] (defScope s_won_states) := ⟨rfl, rfl, rfl, by decide +kernel, rfl, by decide +kernel, by decide +kernel⟩
structure DfK (K : PySem.W.Frag) (mg : Str → Option Value) (x : Str) (st : Stmt) (kws : List (Str × V)) : Prop where
  ex : ∃ f fd, FunD K x x (defArgs st) (defBody st) (defScope st) [] kws f fd ∧ mg x = some (.ref f)
def goodL (G : Gme) : List Bool := G.edges.map fun e => e.tgt.isNone
def badL (G : Gme) : List Bool := G.edges.map fun _ => false
abbrev S_solve (K : PySem.W.Frag) : FS := ⟨Gme, fun G ds L M => ds = [dGame K G] ∧ GWf G ∧ G.tallies.length ≤ 8 ∧ ∀ b, L b = none,
  fun G M d M' => M = M' ∧ ∃ kvs rest, d = .tup (.dT kvs :: rest) ∧ (kvs.map (·.1)).Nodup ∧ ∀ s, inK kvs s ↔ Win G 8 (gP (goodL G)) (gP (badL G)) G.tallies s⟩
def Won (v : Wd) (g : Tr) (s : List Str) : Prop := ∃ G, GmOk v g G ∧ Win G 8 (gP (goodL G)) (gP (badL G)) G.tallies s
abbrev S_ws (K : PySem.W.Frag) (E0 : Addr) : FS := ⟨Wd × Tr × Tr, fun a ds L M => ds = [dTask K a.1 a.2.1 a.2.2, .adr E0] ∧ WdOk a.1 ∧ a.2.2.depth ≤ 5 ∧ ∀ b, L b = none,
  fun a M d M' => M = M' ∧ ∃ (G : Gme) (p : List Str → Bool), GmOk a.1 a.2.2 G ∧ d = .lst (dSts ((statesL a.1.seen).filter p)) ∧ ∀ s, p s = true ↔ s ∈ goalsL a.1 a.2.2 ∨ Win G 8 (gP (goodL G)) (gP (badL G)) G.tallies s⟩
section
variable {P : Program} {w : World} {K : PySem.W.Frag} {mg : Str → Option Value} {base : Heap}
theorem gm_wf {v : Wd} {g : Tr} {G : Gme} (hv : WdOk v) (h : GmOk v g G) : GWf G where
  nd := by
    rw [h.order]
    exact (states_nodup (seen_nd hv.nms)).filter _
  len := by
    rw [h.order]
    exact Nat.le_trans (List.length_filter_le _ _) (states_len hv.nms)
  keys := h.keys
  ix := fun p hp q hq a ha => by
    obtain ⟨ac, _, _, he⟩ := h.built.good p hp q hq
    have : G.edges[a]? ∈ (edgesA v g p.1 ac).map some := by
      rw [← he]
      exact List.mem_map.mpr ⟨a, ha, rfl⟩
    obtain ⟨e, _, e2⟩ := List.mem_map.mp this
    exact (List.getElem?_eq_some_iff.mp e2.symm).1
  tg := fun e he t ht => by
    rw [h.order]
    exact h.built.tg e he t ht
  el := h.len
  cl := fun p hp q hq => by
    obtain ⟨ac, h1, _, he⟩ := h.built.good p hp q hq
    have e1 := congrArg List.length he
    rw [List.length_map, List.length_map] at e1
    have hm : (q.1, ac) ∈ v.table := by
      unfold tget at h1
      cases hf : v.table.find? fun p => decide (p.1 = q.1) with
      | none =>
        rw [hf] at h1
        cases h1
      | some r =>
        rw [hf] at h1
        cases h1
        have := List.find?_some hf
        rw [← of_decide_eq_true this]
        exact List.mem_of_find?_eq_some hf
    have := resA_len hv.nms p.1 (a := ac) (hv.act _ hm).ok.len
    unfold edgesA at e1
    rw [List.length_map] at e1
    omega
theorem counters_len {v : Wd} (h : NmsOk v) : v.counters.length ≤ 8 := by
  have := h.len
  rw [List.length_append, List.length_append] at this
  unfold Wd.counters
  rw [List.length_append]
  omega
theorem ok_solve (T : Tx K mg) (D : Df K mg "solve_game" s_solve_game) (cW : Cal P w K mg base 20 "won_by" (S_won K 8).sp []) : Cal P w K mg base 21 "solve_game" (S_solve K).sp [] := by
  refine cal_sym D sc_solve_game (fun _ _ _ _ _ _ us hl => match us, hl with | [_], _ => rfl) (fun a ds L M h => by obtain ⟨rfl, _⟩ := h; rfl) (fun f cdv A outer s H E hr => ⟨_, pss_cons (ps_setLc (i := 1) (own := [("edge", 2)]) rfl sc_solve_game.nd rfl rfl (sw_true rfl rfl rfl (by decide +kernel)) (pi_list (pe_fld (pv 0) rfl)) (blkOk_by (own := [("edge", 2)]) (N := ["game", "good", "edge"]) (sc := defScope s_solve_game) (by decide +kernel)) (fun _ _ _ _ _ => (pg_name (i := 2) sc_solve_game.nd rfl (Or.inl rfl))) (fun _ _ _ _ _ => pts_nil) (fun _ _ _ _ _ => (pe_cmp (pc_isN (pe_ix (show IxR _ (rIxT K) from ix_tup) (pv 2) pe_int (fun _ _ => rfl))) rfl))) (pss_one (ps_ret (pe_c cW hr (by omega) rfl (pa_cons (pv 0) (pa_cons (pv 1) (pa_cons (pe_lc (own := [("edge", 2)]) rfl sc_solve_game.nd (pi_list (pe_fld (pv 0) rfl)) (blkOk_by (own := [("edge", 2)]) (N := ["game", "good", "edge"]) (sc := defScope s_solve_game) (by decide +kernel)) (fun _ _ _ _ _ => (pg_name (i := 2) sc_solve_game.nd rfl (Or.inl rfl))) (fun _ _ _ _ _ => pts_nil) (fun _ _ _ _ _ => pe_bl)) (pa_cons (pe_fld (pv 0) rfl) pa_nil))))))), fun G ds L M h => ?_⟩)
  obtain ⟨rfl, hG, ht, hL⟩ := h
  have hG : GWf G := hG
  have hel := hG.el
  walk_at "sy"
  refine e_lcM (α := Edge) (wo_name (by decide)) ?_
  walk_at "sy"
  refine ⟨_, _, .lst (G.edges.map dEdge), rfl, T.cGame, T.n_edges, rfl, ?_⟩
  refine ⟨_, rfl, G.edges, dEdge, fun _ => true, fun e => .b e.tgt.isNone, rfl, hel, fun e he => ?_, ?_⟩
  · intro M' l
    walk_at "sy"
    refine ⟨rfl, t_yes ?_⟩
    refine ⟨rfl, rfl, fun _ => ?_⟩
    walk_at "sy"
    refine o_ixT (n := 0) (d := dTgt e.tgt) rfl ?_
    show (dTgt e.tgt = Dt.non → Dt.b true = Dt.b e.tgt.isNone ∧ M' = M') ∧ (dTgt e.tgt ≠ Dt.non → Dt.b false = Dt.b e.tgt.isNone ∧ M' = M')
    cases e.tgt with
    | none => exact ⟨fun _ => ⟨rfl, rfl⟩, fun z => absurd rfl z⟩
    | some t => exact ⟨(fun z => nomatch z), fun _ => ⟨rfl, rfl⟩⟩
  rw [filter_tt]
  have eW : (G.edges.map fun e => Dt.b e.tgt.isNone) = dBls (goodL G) := by unfold dBls goodL; rw [List.map_map]; rfl
  rw [eW]
  walk_at "sy"
  refine e_lcM (α := Edge) (wo_name (by decide)) ?_
  walk_at "sy"
  refine ⟨_, _, .lst (G.edges.map dEdge), rfl, T.cGame, T.n_edges, rfl, ?_⟩
  refine ⟨_, rfl, G.edges, dEdge, fun _ => true, fun e => .b false, rfl, hel, fun e he => ?_, ?_⟩
  · intro M' l
    walk_at "sy"
    refine ⟨rfl, t_yes ?_⟩
    refine ⟨rfl, rfl, fun _ => ?_⟩
    walk_at "sy"
    exact ⟨rfl, rfl⟩
  rw [filter_tt]
  have eW : (G.edges.map fun e => Dt.b false) = dBls (badL G) := by unfold dBls badL; rw [List.map_map]; rfl
  rw [eW]
  walk_at "sy"
  refine ⟨_, _, .lst (dStrs G.tallies), rfl, T.cGame, T.n_tallies, rfl, ?_⟩
  walk_at "sy"
  refine ⟨(G, goodL G, badL G, G.tallies), ⟨rfl, hG, by simp [goodL], by simp [badL], fun a ha h => ?_, ht, ht, hL⟩, ?_⟩
  · unfold gP goodL
    unfold Gme.tg at h
    rw [List.getElem?_map]
    rw [List.getElem?_eq_getElem ha] at h ⊢
    have h : G.edges[a].tgt = none := h
    show some G.edges[a].tgt.isNone = some true
    rw [h]
    rfl
  · rintro d M2 ⟨rfl, kvs, rest, rfl, h1, h2⟩
    exact ⟨rfl, kvs, rest, rfl, h1, h2⟩
theorem e_game {L : Lk} {Γ : Gm} {M : Mm} {tr : TA} {E : XK} {P : Dt → Mm → Prop} {E0 : Addr} (h : EvA L Γ M tr fun ds M1 => ∃ v t g, ds = [dTask K v t g, .adr E0] ∧ WdOk v ∧ g.depth ≤ 5 ∧ (∀ b, L b = none) ∧ ∀ G, GmOk v g G → P (dGame K G) M1) :
    Ev L Γ M (tMake (cl K "Game") (S_Ginit K E0).sp [] E tr) P :=
  e_frz (e_make (fun _ => repL_nil) fun σ H0 H Q s g q => h σ H0 H Q s g fun vs ds M' H0' H' e s' rs p => q vs ds M' H0' H' e s' rs fun x hx => by
    obtain ⟨v, t, g, rfl, h2, h3, h4, h5⟩ := p
    refine ⟨(x, v, t, g), ⟨rfl, mset_same, h2, h3, h4⟩, ?_⟩
    rintro d M2 ⟨rfl, G, hG, rfl⟩
    refine ⟨rfl, x, _, rfl, mset_same, ?_⟩
    show P _ (mdel (mset (mset M' x _) x _) x)
    rw [mset_mset, mdel_mset hx]
    exact h5 G hG)
theorem ok_ws (T : Tx K mg) {E0 : Addr} (D : DfK K mg "won_states" s_won_states [("without", .ref E0)]) (kG : Mak P w K mg base 13 "Game" (cl K "Game") (S_Ginit K E0).sp []) (cS : Cal P w K mg base 21 "solve_game" (S_solve K).sp []) (mB : Met P w K mg base 8 (cl K "Task") "base" (S_base K).sp []) (mG : Met P w K mg base 8 (cl K "Task") "goals" (S_goals K).sp []) (mS : Met P w K mg base 2 (cl K "World") "states" (S_states K).sp []) : Cal P w K mg base 22 "won_states" (S_ws K E0).sp [.ref E0] := by
  obtain ⟨f, fd, F, hm⟩ := D.ex
  obtain ⟨ds, h1, h2⟩ := F.binds0 (ps := ["task", "without"]) 1 (fun z => nomatch z) rfl (fun _ _ _ _ _ _ us ks hu hk => match us, ks, hu, hk with | [_], [_], _, _ => ⟨_, _, _, _, _, _, rfl, rfl, rfl⟩)
  have main : BodyOk P w K mg base 21 "won_states" s_won_states _ (S_ws K E0) := fun f cdv A outer s H E hr => ⟨_, pss_cons (ps_set (i := 2) sc_won_states.nd rfl (Or.inl rfl) (pe_mk kG hr (by omega) rfl (pa_cons (pv 0) (pa_cons (pv 1) pa_nil)))) (pss_cons (ps_set (i := 3) sc_won_states.nd rfl (Or.inr rfl) (pe_ix ix_tup (pe_c cS hr (by omega) rfl (pa_cons (pv 2) pa_nil)) pe_int (fun _ _ => rfl))) (pss_cons (ps_set (i := 4) sc_won_states.nd rfl (Or.inr rfl) (pe_mt0 mG hr (by omega) (pv 0))) (pss_one (ps_ret (pe_lc (own := [("state", 5)]) rfl sc_won_states.nd (pi_list (pe_mt0 mS hr (by omega) (pe_mt0 mB hr (by omega) (pv 0)))) (blkOk_by (own := [("state", 5)]) (N := ["task", "without", "game", "table", "goals", "state"]) (sc := defScope s_won_states) (by decide +kernel)) (fun _ _ _ _ _ => (pg_name (i := 5) sc_won_states.nd rfl (Or.inl rfl))) (fun _ _ _ _ _ => (pts_one (PW.pt (pw_or (pt_cmpR (show OpR _ _ (rInD K) from (op_inD (hu65 hr))) (pv 5) (pv 4) rfl) (pw_or1 (pt_cmp (pc_din (hu_of hr) (pv 5) (pv 3)) rfl)))))) (fun _ _ _ _ _ => (pv 5))))))), fun (v, t, g) ds L M h => ?_⟩
  exact ⟨f, fd, ["task", "without"], ds, fn_sym F sc_won_states (fun a ds L M h => by obtain ⟨rfl, _⟩ := h; rfl) (main f), hm, F.kp, h2, h1⟩
  obtain ⟨rfl, hv, hg, hL⟩ := h
  walk_at "sy"
  have hv : WdOk v := hv
  have hg : g.depth ≤ 5 := hg
  have hsl := states_len hv.nms
  refine e_game ?_
  walk_at "sy"
  refine ⟨v, t, g, rfl, hv, hg, hL, fun G hG => ?_⟩
  walk_at "sy"
  refine ⟨G, ⟨rfl, gm_wf hv hG, by rw [hG.tallies]; exact counters_len hv.nms, hL⟩, ?_⟩
  rintro d M2 ⟨rfl, kvs, rest, rfl, h1, h2⟩
  walk_at "sy"
  refine o_ixT (n := 0) (d := .dT kvs) rfl ?_
  walk_at "sy"
  refine ⟨(v, t, g), ⟨rfl, hv.nms, hg⟩, ?_⟩
  rintro d M2 ⟨rfl, rfl⟩
  walk_at "sy"
  refine e_lcM (α := List Str) (wo_name (by decide)) ?_
  walk_at "sy"
  refine ⟨(v, t, g), ⟨rfl, hv, hL⟩, ?_⟩
  rintro d M2 ⟨rfl, rfl⟩
  walk_at "sy"
  refine ⟨v, ⟨⟨_, _, rfl, rfl⟩, hv.nms⟩, ?_⟩
  rintro d M2 ⟨rfl, rfl⟩
  refine ⟨_, rfl, statesL v.seen, fun s => .tup (dStrs s), fun s => decide (s ∈ goalsL v g) || (lookA kvs s).isSome, fun s => .tup (dStrs s), rfl, by omega, fun s hs => ?_, ?_⟩
  · intro M' l
    walk_at "sy"
    refine ⟨rfl, ?_⟩
    walk_at "sy"
    refine o_inSts rfl (state_str hv.nms hs) (goals_str hv.nms g) ?_
    refine ⟨_, rfl, iB (fun e1 => ?_) (fun e1 => ?_)⟩
    · refine ⟨?_, rfl, fun _ => ?_⟩
      · show true = (decide (s ∈ goalsL v g) || (lookA kvs s).isSome)
        rw [show decide (s ∈ goalsL v g) = true from e1]
        rfl
      · walk_at "sy"
        exact ⟨rfl, rfl⟩
    · walk_at "sy"
      refine .inr ⟨_, _, rfl, rfl, ?_⟩
      refine ⟨_, rfl, ?_, rfl, fun _ => ?_⟩
      · show _ = (decide (s ∈ goalsL v g) || (lookA kvs s).isSome)
        rw [show decide (s ∈ goalsL v g) = false from e1]
        rfl
      · walk_at "sy"
        exact ⟨rfl, rfl⟩
  · refine ⟨rfl, G, _, hG, rfl, fun s => ?_⟩
    rw [Bool.or_eq_true, decide_eq_true_eq, inK_look, h2]
end
end K85
set_option maxRecDepth 100000
/-! == of dicts whose values have their own ==. (The loop is the library's, turned to one that lets the state grow.) -/
namespace K85
open PySem PySem.Calls PyProof.Rows PyProof.V PySem.Spec PySem.W
section
variable {prog : Program} {w : World} {K : Type} [DecidableEq K] {knd : KeyKind prog w K} {A : Around} {E : Value → Shared → Prop}
theorem samePairsG {nm : String} {a b : Addr} {oa ob : Obj} {es es' : Array DictEntry} {ep ep' : Nat} {ka kb : List (K × Value)} {Q : Bool → Shared → Prop} (I : Nat → Shared → Prop) (ha : (a == sysModules) = false) (hb : (b == sysModules) = false)
    (get : ∀ i s, I i s → s.heap.get? a = some oa ∧ s.heap.get? b = some ob) (hda : oa.data = .dict es ep) (hka : KeysOf knd es) (hpa : Pairs knd es.toList ka) (hdb : ob.data = .dict es' ep') (hkb : KeysOf knd es') (hpb : Pairs knd es'.toList kb)
    (len : ka.length = kb.length)
    (turn : ∀ i k v s, ka[i]? = some (k, v) → I i s → ∃ y, valueAt kb k = some y ∧ wpAny (model prog w) A (eqBool v y) (fun r s' => r = true ∧ I (i + 1) s') E s) (fin : ∀ s, I ka.length s → Q true s) {s : Shared} (h : I 0 s) :
    wpAny (model prog w) A (Builtin.Dict.samePairs nm a b) Q E s := by
  obtain ⟨hoa, hob⟩ := get 0 s h
  have hla : ka.length = es.size := by rw [← hpa.length]; exact Array.length_toList
  have hlb : kb.length = es'.size := by rw [← hpb.length]; exact Array.length_toList
  have hfind : ∀ k, findBy knd.is es' k = valueAt kb k := fun k => by
    rw [← hpb.find k]
    clear hlb hpb hkb hdb
    obtain ⟨l⟩ := es'
    simp [findBy]
  have hsz : es.size = es'.size := by omega
  unfold Builtin.Dict.samePairs Builtin.Dict.showsAll
  rw [if_neg (show ¬ (a == sysModules) = true by rw [ha]; exact Bool.false_ne_true), if_neg (show ¬ (b == sysModules) = true by rw [hb]; exact Bool.false_ne_true)]
  refine wpAny_bind (wpAny_pure (wpAny_bind (wpAny_pure ?_)))
  refine wpAny_bind (wpAny_dictEntries hoa hda ?_)
  dsimp only
  refine wpAny_bind (wpAny_dictEntries hob hdb ?_)
  rw [if_neg (by rw [hsz]; simp)]
  refine wpAny_bind (wpAny_dictEpoch hoa hda ?_)
  refine wpAny_bind ?_
  rw [Std.Legacy.Range.forIn_eq_forIn_range']
  simp only [Std.Legacy.Range.size, Nat.sub_zero, Nat.add_sub_cancel, Nat.div_one]
  refine wpAny_forIn_list _
    (fun rest q s' => q = (none, ()) ∧ ∃ i, rest = List.range' i (es.size - i) ∧ i ≤ es.size ∧ I i s')
    _ ?_ ?_ _ _ ⟨rfl, 0, by simp, Nat.zero_le _, h⟩
  · rintro x rest q s' ⟨rfl, i, hr, hi, hI⟩
    have hlt : i < es.size := by
      rcases Nat.lt_or_ge i es.size with h | h
      · exact h
      · rw [Nat.sub_eq_zero_of_le h] at hr; simp at hr
    obtain ⟨rfl, hrest⟩ : x = i ∧ rest = List.range' (i + 1) (es.size - (i + 1)) := by
      have e : es.size - i = (es.size - (i + 1)) + 1 := by omega
      rw [e, List.range'_succ] at hr
      injection hr with h1 h2
      exact ⟨h1, h2⟩
    obtain ⟨hoa, hob⟩ := get _ _ hI
    refine wpAny_bind (wpAny_dictEntries hoa hda ?_)
    rw [Array.getElem?_eq_getElem hlt]
    have hlt' : x < ka.length := by rw [hla]; exact hlt
    obtain ⟨k, v, hkv⟩ : ∃ k v, ka[x] = (k, v) := ⟨_, _, rfl⟩
    have hget : ka[x]? = some (k, v) := by rw [List.getElem?_eq_getElem hlt', hkv]
    obtain ⟨hkey, hval⟩ := hpa.get? (i := x) (e := es[x]) (k := k) (v := v) (by rw [Array.getElem?_toList]; exact Array.getElem?_eq_getElem hlt) hget
    obtain ⟨k', hk', hh⟩ := hka es[x] (Array.getElem_mem hlt)
    have ekk : k' = k := knd.inj _ _ _ hk' hkey
    rw [ekk] at hh
    show wpAny _ _ (holding [es[x].key, es[x].val] _ >>= _) _ _ _
    rw [hh]
    obtain ⟨y, hy, ht⟩ := turn x k v s' hget hI
    refine wpAny_bind (wpAny_holding (wpAny_bind (wpAny_dictFind_of hkey hob hdb hkb ?_)))
    cases hj : es'.findIdx? fun e => knd.is k e.key with
    | none =>
      have hn : valueAt kb k = none := by rw [← hfind k, findBy_of_findIdx?, hj]
      rw [hn] at hy
      exact nomatch hy
    | some j =>
      obtain ⟨hjlt, _, _⟩ := Array.findIdx?_eq_some_iff_getElem.mp hj
      have hv' : valueAt kb k = some es'[j].val := by
        rw [← hfind k, findBy_of_findIdx?, hj]
        simp [Array.getElem?_eq_getElem hjlt]
      refine wpAny_bind (wpAny_dictEntries hob hdb ?_)
      rw [Array.getElem?_eq_getElem hjlt]
      have ey : es'[j].val = y := Option.some.inj (hv'.symm.trans hy)
      rw [← ey, ← hval] at ht
      refine wpAny_holding (wpAny_mono ht (fun r s2 z => ?_) fun _ _ x => x)
      obtain ⟨rfl, hI2⟩ := z
      obtain ⟨hoa2, hob2⟩ := get _ _ hI2
      show wpAny _ _ (if (!true) = true then _ else _) _ _ _
      rw [if_neg (by decide)]
      refine wpAny_bind (wpAny_dictEpoch hoa2 hda ?_)
      rw [if_neg (by simp)]
      exact wpAny_pure ⟨rfl, x + 1, hrest, hlt, hI2⟩
  · rintro q s' ⟨rfl, i, hr, hi, hI⟩
    have hin : i = es.size := by
      rcases Nat.lt_or_ge i es.size with h | h
      · have e : es.size - i = (es.size - (i + 1)) + 1 := by omega
        rw [e, List.range'_succ] at hr; exact nomatch hr
      · exact Nat.le_antisymm hi h
    refine wpAny_pure ?_
    rw [hin, ← hla] at hI
    exact fin _ hI
end
end K85
set_option maxRecDepth 100000
set_option maxHeartbeats 1000000
/-! == that gives True: own ones, lists, tuples and dicts of such. -/
namespace K85
open PySem L2 PySem.Spec PyProof.Rows
section
variable {X : Cx} {n : Nat} {D : Eqv}
abbrev lk2 (H : Hp) (a b : Addr) (ks ls : List (Key × V)) (od ob : Obj) : Hp := upd (upd H a (.frz od (.dK ks))) b (.frz ob (.dK ls))
/-- two dicts with the same keys, their values equal by D (while the two are locked) -/
def DDict (D : Eqv) : Eqv := fun x y H => ∃ a b ks ls, x = .ref a ∧ y = .ref b ∧ H a = some (.dK ks) ∧ H b = some (.dK ls) ∧ ks.length = ls.length ∧ ∀ (i : Nat) k v, ks[i]? = some (k, v) → ∃ u, valV ls k = some u ∧ ∀ od ob, D v u (lk2 H a b ks ls od ob)
theorem kv_at {α : Type} {ks : List (α × V)} {vs : List (α × Value)} (r : KV ks vs) {i : Nat} {k : α} {u : Value} (h : vs[i]? = some (k, u)) : ∃ v, ks[i]? = some (k, v) ∧ RelV v u := by
  unfold KV at r
  induction r generalizing i with
  | nil => simp at h
  | @cons p q ps qs h1 h2 ih =>
    cases i with
    | zero =>
      simp at h
      subst h
      obtain ⟨p1, p2⟩ := p
      obtain ⟨e1, e2⟩ := h1
      have e1 : p1 = k := e1
      subst e1
      exact ⟨p2, rfl, e2⟩
    | succ i =>
      simp at h
      obtain ⟨v, h3, h4⟩ := ih h
      exact ⟨v, by simpa using h3, h4⟩
theorem lock2 {pins : List (Addr × Obj)} {σ : L2.St} {H : Hp} {s : Shared} {a b : Addr} {ks ls : List (Key × V)} (I : Inv X pins σ H s) (ha : H a = some (.dK ks)) (hb : H b = some (.dK ls)) : ∃ od ob, Inv X pins σ (lk2 H a b ks ls od ob) s ∧ (a = b → od = ob ∧ ks = ls) := by
  obtain ⟨od, I1⟩ := I.lock ha trivial
  by_cases e : a = b
  · subst e
    rw [ha] at hb
    cases hb
    exact ⟨od, od, by rw [lk2, upd_upd]; exact I1, fun _ => ⟨rfl, rfl⟩⟩
  · obtain ⟨ob, I2⟩ := I1.lock (d := b) (u := .dK ls) (by rw [upd_ne (fun z => e z.symm)]; exact hb) trivial
    exact ⟨od, ob, I2, fun z => absurd z e⟩
theorem unlock2 {pins : List (Addr × Obj)} {σ : L2.St} {H H1 : Hp} {s s1 : Shared} {a b : Addr} {ks ls : List (Key × V)} {od ob : Obj} (I : Inv X pins σ H s) (ha : H a = some (.dK ks)) (hb : H b = some (.dK ls)) (hab : a = b → od = ob ∧ ks = ls)
    (I1 : Inv X pins σ H1 s1) (e : Ext (lk2 H a b ks ls od ob) H1) : ∃ H', Inv X pins σ H' s1 ∧ Ext H H' := by
  have hb1 : H1 b = some (.frz ob (.dK ls)) := e _ _ upd_same
  have I2 := I1.unlock hb1 (I.nofrz hb trivial)
  by_cases q : a = b
  · subst q
    obtain ⟨rfl, rfl⟩ := hab rfl
    refine ⟨_, I2, fun c o h => ?_⟩
    by_cases hc : c = a
    · subst hc
      rw [upd_same, ← h, ha]
    · rw [upd_ne hc]
      refine e _ _ ?_
      rw [lk2, upd_ne hc, upd_ne hc]
      exact h
  · have ha1 : upd H1 b (.dK ls) a = some (.frz od (.dK ks)) := by
      rw [upd_ne q]
      refine e _ _ ?_
      rw [lk2, upd_ne q]
      exact upd_same
    have I3 := I2.unlock ha1 (I.nofrz ha trivial)
    refine ⟨_, I3, fun c o h => ?_⟩
    by_cases hc : c = a
    · subst hc
      rw [upd_same, ← h, ha]
    · rw [upd_ne hc]
      by_cases hd : c = b
      · subst hd
        rw [upd_same, ← h, hb]
      · rw [upd_ne hd]
        refine e _ _ ?_
        rw [lk2, upd_ne hd, upd_ne hc]
        exact h
theorem mon_dict (hD : Mon D) : Mon (DDict D) := fun x y H H' e d => by
  obtain ⟨a, b, ks, ls, rfl, rfl, ha, hb, hl, hv⟩ := d
  refine ⟨a, b, ks, ls, rfl, rfl, e _ _ ha, e _ _ hb, hl, fun i k v h => ?_⟩
  obtain ⟨u, h1, h2⟩ := hv i k v h
  refine ⟨u, h1, fun od ob => hD _ _ _ _ (fun c o q => ?_) (h2 od ob)⟩
  by_cases hc : c = b
  · subst hc
    rw [lk2, upd_same] at q ⊢
    exact q
  · rw [lk2, upd_ne hc] at q ⊢
    by_cases hd : c = a
    · subst hd
      rw [upd_same] at q ⊢
      exact q
    · rw [upd_ne hd] at q ⊢
      exact e _ _ q
theorem rcG_dict (hD : Mon D) (h : EqG X n D) : RcG X (n + 1) (DDict D) := by
  intro A pins s σ H x y u v sb I rx ry d
  obtain ⟨a, b, ks, ls, rfl, rfl, ha, hb, hl, hv⟩ := d
  cases (show u = Value.ref a from rx)
  cases (show v = Value.ref b from ry)
  obtain ⟨od, ob, I2, hab⟩ := lock2 I ha hb
  have hb2 : lk2 H a b ks ls od ob b = some (.frz ob (.dK ls)) := upd_same
  have ha2 : lk2 H a b ks ls od ob a = some (.frz od (.dK ks)) := by
    by_cases q : a = b
    · subst q
      obtain ⟨rfl, rfl⟩ := hab rfl
      exact upd_same
    · rw [lk2, upd_ne q]
      exact upd_same
  obtain ⟨ga, _, ya, va, ra, da⟩ := I2.hok a _ ha2
  obtain ⟨gb, _, yb, vb, rb, db⟩ := I2.hok b _ hb2
  obtain ⟨o1, es, ep, e1, c1, d1, k1, p1, _⟩ := id da
  obtain ⟨o2, es', ep', e2, c2, d2, k2, p2, _⟩ := id db
  rw [ga] at e1
  cases e1
  rw [gb] at e2
  cases e2
  refine wpAny_richCompare_same_room (op := .Eq) da.typeIs db.typeIs PySem.F.slot_dict_eq (wpAny_call_entry PySem.F.slot_dict_eq da.typeIs PySem.F.entry_dict_eq ?_ (PySem.F.args_dict_eq_2 _ _)) sb.room.units0
  show wpAny _ _ (Builtin.Dict.dictSlotArgs "__eq__" ⟨[.ref a, .ref b], []⟩ >>= _) _ _ s
  refine wpAny_bind ?_
  unfold Builtin.Dict.dictSlotArgs
  refine wpAny_bind (wpAny_notOrdered_dict da.typeIs ?_)
  show wpAny _ _ (pure (Value.ref a, Value.ref b)) _ _ s
  refine wpAny_pure ?_
  refine wpAny_bind (wpAny_isInstance (T := "dict") db.typeIs PySem.F.sub_dict_dict ?_)
  simp only [Bool.not_true, Bool.false_eq_true, if_false]
  refine wpAny_bind (wpAny_pure (wpAny_bind (wpAny_pure ?_)))
  refine wpAny_bind (samePairsG (knd := mixKind X.prog X.w) (fun _ s' => LoopI X pins σ (lk2 H a b ks ls od ob) s') ya yb (fun i s' q => ?_) d1 k1 p1 d2 k2 p2 (by rw [← ra.length, ← rb.length]; exact hl) (fun i k w s' hk q => ?_) (fun s' q => ?_) ⟨_, I2, Ext.rfl'⟩)
  · obtain ⟨H1, I1, e1⟩ := q
    obtain ⟨x1, _⟩ := I1.hok a _ (e1 _ _ ha2)
    obtain ⟨x2, _⟩ := I1.hok b _ (e1 _ _ hb2)
    exact ⟨x1, x2⟩
  · obtain ⟨v, hv1, rv⟩ := kv_at ra hk
    obtain ⟨u, hu1, hu2⟩ := hv i k v hv1
    have rr : RelO (some u) (valueAt vb k) := by rw [← hu1]; exact rb.val k
    obtain ⟨y, hy, ry⟩ := rr.some_of
    refine ⟨y, hy, ?_⟩
    obtain ⟨H1, I1, e1⟩ := q
    refine wpAny_mono (h A.in1 pins s' σ H1 _ _ w y sb.in1 I1 rv ry (hD _ _ _ _ e1 (hu2 od ob))) (fun r s2 q => ?_) fun _ _ x => x
    obtain ⟨hr, H2, I2, e2⟩ := q
    exact ⟨hr, H2, I2, e1.trans e2⟩
  · obtain ⟨H1, I1, e1⟩ := q
    refine wpAny_pure ⟨_, rfl, (fun x => nomatch x), ?_⟩
    exact ⟨rfl, unlock2 I ha hb hab I1 e1⟩
end
end K85
set_option maxRecDepth 100000
set_option maxHeartbeats 1000000
/-! == by data: what an own __eq__ says of two that stand for the same. -/
namespace K85
open PySem L2
abbrev nom : Mm := fun _ => none
def DData {α : Type} (f : α → Dt) (ok : α → Lk → Prop) : Eqv := fun x y H => ∃ a L H0, ok a L ∧ SV L nom H0 H ∧ Rep H0 (f a) x ∧ Rep H0 (f a) y
section
variable {L : Lk} {M : Mm} {H0 H H' : Hp}
theorem SV.ext (s : SV L M H0 H) (e : Ext H H') : SV L M H0 H' :=
  ⟨fun a u h => (s.per a u h).elim (fun ⟨o, q, r⟩ => .inl ⟨o, q, e _ _ r⟩) fun ⟨q, r⟩ => .inr ⟨q, e _ _ r⟩, s.lkd, fun a d h => ⟨(s.own a d h).1, (s.own a d h).2.elim fun u q => ⟨u, e _ _ q.1, q.2⟩⟩⟩
theorem SV.nom (s : SV L M H0 H) : SV L nom H0 H := s.less fun _ _ e => nomatch e
theorem SV.nd {a : Addr} {u : HO} (s : SV L M H0 H) (h : H0 a = some u) (hu : ¬ isDict u) : H a = some u := by
  rcases s.per a u h with ⟨o, q, _⟩ | ⟨_, q⟩
  · obtain ⟨u', h', k⟩ := s.lkd a o q
    rw [h] at h'
    cases h'
    exact absurd k.1 hu
  · exact q
/-- all that is not locked counts as lasting -/
theorem SV.cover (s : SV L M H0 H) : ∃ H1, Same H0 H1 ∧ SV L K85.nom H1 H ∧ ∀ {M' : Mm} {H0' H' : Hp}, Same H1 H0' → SV L M' H0' H' → Ext H H' := by
  refine ⟨fun a => if (L a).isSome then H0 a else H a, fun a u h => ?_, ⟨fun a u h => ?_, fun a o h => ?_, fun a d h => nomatch h⟩, fun e s' c o h => ?_⟩
  · rcases s.per a u h with ⟨o, q, _⟩ | ⟨q, r⟩
    · show (if (L a).isSome then H0 a else H a) = some u
      rw [q]; exact h
    · show (if (L a).isSome then H0 a else H a) = some u
      rw [q]; exact r
  · have h : (if (L a).isSome then H0 a else H a) = some u := h
    cases q : L a with
    | some o =>
      rw [q] at h
      rcases s.per a u h with ⟨o', q', r⟩ | ⟨q', _⟩
      · rw [q] at q'
        cases q'
        exact .inl ⟨o, rfl, r⟩
      · rw [q] at q'
        cases q'
    | none =>
      rw [q] at h
      exact .inr ⟨rfl, h⟩
  · obtain ⟨u, h1, h2⟩ := s.lkd a o h
    exact ⟨u, by show (if (L a).isSome then H0 a else H a) = some u; rw [h]; exact h1, h2⟩
  · cases q : L c with
    | some l =>
      obtain ⟨u, h1, h2⟩ := s.lkd c l q
      have h3 : H c = some (.frz l.1 u) := by
        rcases s.per c u h1 with ⟨o', q', r⟩ | ⟨q', _⟩
        · rw [q] at q'
          cases q'
          exact r
        · rw [q] at q'
          cases q'
      rw [h] at h3
      cases h3
      have h4 := e c u (by show (if (L c).isSome then H0 c else H c) = some u; rw [q]; exact h1)
      rcases s'.per c u h4 with ⟨o', q', r⟩ | ⟨q', _⟩
      · rw [q] at q'
        cases q'
        exact r
      · rw [q] at q'
        cases q'
    | none =>
      have h4 := e c o (by show (if (L c).isSome then H0 c else H c) = some o; rw [q]; exact h)
      rcases s'.per c o h4 with ⟨o', q', _⟩ | ⟨_, r⟩
      · rw [q] at q'
        cases q'
      · exact r
end
section
variable {α : Type} {f : α → Dt} {ok : α → Lk → Prop}
theorem mon_data : Mon (DData f ok) := fun x y H H' e d => by
  obtain ⟨a, L, H0, h1, s, r1, r2⟩ := d
  exact ⟨a, L, H0, h1, s.ext e, r1, r2⟩
section
variable {X : Cx} {C : Addr} {n : Nat} {S : FS}
theorem rcG_data (c : Dun X.prog X.w X.K X.mg X.base n C "__eq__" S.sp) (hf : ∀ a, ∃ fs, f a = .ins C fs) (h : ∀ a L, ok a L → ∃ z : S.α, S.pre z [f a, f a] L nom ∧ ∀ d M', S.post z nom d M' → d = .b true) : RcG X n (DData f ok) := by
  obtain ⟨F, fd, ps, hm, hfn, hF, hb⟩ := c.ex
  have F2 : FnOk X.prog X.w X.K X.mg X.base CX0 n F fd ps (spEq fun a b H => DData f ok (.ref a) (.ref b) H) := hF.imp fun vs H Q E hs => by
    obtain ⟨a, b, rfl, ⟨x, L, H0, hok, s, r1, r2⟩, q⟩ := hs
    obtain ⟨H1, e1, s1, ex⟩ := s.cover
    obtain ⟨z, hz, hp⟩ := h x L hok
    refine ⟨z, L, nom, H1, [f x, f x], s1, repL_cons (r1.up e1) (repL_cons (r2.up e1) repL_nil), hz, fun v d M' H0' H' e s' rr pp => ?_⟩
    have hd := hp d M' pp
    subst hd
    unfold Rep at rr
    subst rr
    exact q H' (ex e s')
  intro A pins s σ H x y u v sb I rx ry d
  refine rcG_ins (R := fun a b H => DData f ok (.ref a) (.ref b) H) F2 hm.at_ hm.fn hb pass0 A pins s σ H x y u v sb I rx ry ?_
  obtain ⟨z, L, H0, hok, s1, r1, r2⟩ := id d
  obtain ⟨fs, e⟩ := hf z
  rw [e] at r1 r2
  unfold Rep at r1 r2
  obtain ⟨a, dx, ws, rfl, h1, _⟩ := r1
  obtain ⟨b, dy, ws', rfl, h2, _⟩ := r2
  have nd : ∀ {dx : Addr} {ws}, ¬ isDict (HO.ins C dx ws) := fun q => by
    rcases q with ⟨_, q⟩ | ⟨_, q⟩ <;> cases q
  exact ⟨a, b, dx, dy, ws, ws', rfl, rfl, s1.nd h1 nd, s1.nd h2 nd, d⟩
theorem eqG_data (h : RcG X n (DData f ok)) (hf : ∀ a, ∃ fs, f a = .ins C fs) : EqG X n (DData f ok) := h.eqG fun x y H d => by
  obtain ⟨z, L, H0, hok, s1, r1, r2⟩ := d
  obtain ⟨fs, e⟩ := hf z
  rw [e] at r1 r2
  unfold Rep at r1 r2
  obtain ⟨a, dx, ws, rfl, h1, _⟩ := r1
  obtain ⟨b, dy, ws', rfl, h2, _⟩ := r2
  exact ⟨a, b, rfl, rfl⟩
end
section
variable {L : Lk} {M : Mm} {P : Dt → Mm → Prop} {K : PySem.W.Frag} {x y : Dt} {D : Eqv}
theorem o_eqG (h : ∀ H0 H v u, SV L M H0 H → Rep H0 x v → Rep H0 y u → D v u H) (k : P (.b true) M) : Op L M (rEqG D) x y P := fun H0 H v w Q s rx ry q =>
  ⟨h H0 H v w s rx ry, fun H' e => q _ (.b true) M H0 H' (Same.refl _) (s.ext e) (by unfold Rep; rfl) k⟩
theorem d_data {a : α} (h : ok a L) : ∀ H0 H v u, SV L M H0 H → Rep H0 (f a) v → Rep H0 (f a) u → DData f ok v u H := fun H0 H v u s r1 r2 => ⟨a, L, H0, h, s.nom, r1, r2⟩
theorem nd_lst {xs : List V} : ¬ isDict (.lst xs) := fun q => by rcases q with ⟨_, q⟩ | ⟨_, q⟩ <;> cases q
theorem nd_tup {xs : List V} : ¬ isDict (.tup xs) := fun q => by rcases q with ⟨_, q⟩ | ⟨_, q⟩ <;> cases q
theorem prs_rep {H0 H : Hp} : ∀ {ds es : List Dt} {xs ys : List V}, RepL H0 ds xs → RepL H0 es ys → ds.length = es.length → (∀ (i : Nat) (d e : Dt) x y, ds[i]? = some d → es[i]? = some e → Rep H0 d x → Rep H0 e y → D x y H) → Prs D xs ys H
  | [], [], xs, ys, r1, r2, _, _ => by
    unfold RepL at r1 r2
    subst r1 r2
    exact Prs.nil
  | d :: ds, e :: es, xs, ys, r1, r2, hl, h => by
    unfold RepL at r1 r2
    obtain ⟨x, xr, rfl, a1, b1⟩ := r1
    obtain ⟨y, yr, rfl, a2, b2⟩ := r2
    exact Prs.cons (h 0 d e x y rfl rfl a1 a2) (prs_rep b1 b2 (by simpa using hl) fun i d' e' x' y' h1 h2 => h (i + 1) d' e' x' y' (by simpa using h1) (by simpa using h2))
  | [], _ :: _, _, _, _, _, hl, _ => nomatch hl
  | _ :: _, [], _, _, _, _, hl, _ => nomatch hl
theorem d_list {as_ : List α} (h : ∀ a ∈ as_, ok a L) : ∀ H0 H v u, SV L M H0 H → Rep H0 (.lst (as_.map f)) v → Rep H0 (.lst (as_.map f)) u → DList (DData f ok) v u H := fun H0 H v u s r1 r2 => by
  unfold Rep at r1 r2
  obtain ⟨a, xs, rfl, h1, p1⟩ := r1
  obtain ⟨b, ys, rfl, h2, p2⟩ := r2
  refine ⟨a, b, xs, ys, rfl, rfl, s.nd h1 nd_lst, s.nd h2 nd_lst, prs_rep p1 p2 rfl fun i d e x y e1 e2 q1 q2 => ?_⟩
  rw [e1] at e2
  cases e2
  rw [List.getElem?_map] at e1
  cases q : as_[i]? with
  | none =>
    rw [q] at e1
    cases e1
  | some z =>
    rw [q] at e1
    cases e1
    exact ⟨z, L, H0, h z (List.mem_of_getElem? q), s.nom, q1, q2⟩
theorem repK_at {H : Hp} : ∀ {kvs : List (Str × Dt)} {ws : List (Key × V)} {i : Nat} {k : Key} {v : V}, RepK H kvs ws → ws[i]? = some (k, v) → ∃ p, kvs[i]? = some p ∧ k = .inr p.1 ∧ Rep H p.2 v
  | [], ws, i, k, v, h, e => by
    unfold RepK at h
    subst h
    simp at e
  | (x, d) :: kvs, ws, i, k, v, h, e => by
    unfold RepK at h
    obtain ⟨y, r, rfl, h1, h2⟩ := h
    cases i with
    | zero =>
      simp at e
      obtain ⟨rfl, rfl⟩ := e
      exact ⟨_, rfl, rfl, h1⟩
    | succ i =>
      obtain ⟨p, h3, h4⟩ := repK_at h2 (i := i) (by simpa using e)
      exact ⟨p, by simpa using h3, h4⟩
theorem look_at {α : Type} {t : List (Str × α)} {f : α → Dt} (nd : (t.map (·.1)).Nodup) {i : Nat} {p : Str × α} (h : t[i]? = some p) : lookA (t.map fun p => (p.1, f p.2)) p.1 = some (f p.2) := by
  induction t generalizing i with
  | nil => simp at h
  | cons q t ih =>
    rw [List.map_cons, List.nodup_cons] at nd
    unfold lookA
    rw [List.map_cons, List.find?_cons]
    cases i with
    | zero =>
      simp at h
      subst h
      simp
    | succ i =>
      have h : t[i]? = some p := by simpa using h
      have hne : q.1 ≠ p.1 := fun e => nd.1 (e ▸ List.mem_map.mpr ⟨p, List.mem_of_getElem? h, rfl⟩)
      simp only [hne, decide_false]
      have := ih nd.2 h
      unfold lookA at this
      exact this
theorem repM_some {H : Hp} {o : Option V} {d : Dt} (h : RepM H (some d) o) : ∃ v, o = some v ∧ Rep H d v := by
  obtain ⟨v, h1, h2⟩ := h.some
  exact ⟨v, h1, h2⟩
theorem d_dict {t : List (Str × α)} (nd : (t.map (·.1)).Nodup) (hc : ∀ H0 u, RepO H0 (.dK (t.map fun p => (p.1, f p.2))) u → Lkd (!t.isEmpty) u) (h : ∀ p ∈ t, ∀ L', (∀ a o, L' a = some o → L a = some o ∨ o.2 = true) → ok p.2 L') (hL : ∀ a, L a = none) :
    ∀ H0 H v u, SV L M H0 H → Rep H0 (.dK (t.map fun p => (p.1, f p.2))) v → Rep H0 (.dK (t.map fun p => (p.1, f p.2))) u → DDict (DData f ok) v u H := fun H0 H v u s r1 r2 => by
  have k1 := fun ws (h : RepK H0 (t.map fun p => (p.1, f p.2)) ws) => hc H0 (.dK ws) ⟨ws, rfl, h⟩
  unfold Rep at r1 r2
  obtain ⟨a, ws, rfl, h1, p1⟩ := r1
  obtain ⟨b, ys, rfl, h2, p2⟩ := r2
  have ha : H a = some (.dK ws) := by
    rcases s.per a _ h1 with ⟨o, q, _⟩ | ⟨_, q⟩
    · rw [hL] at q
      cases q
    · exact q
  have hb : H b = some (.dK ys) := by
    rcases s.per b _ h2 with ⟨o, q, _⟩ | ⟨_, q⟩
    · rw [hL] at q
      cases q
    · exact q
  refine ⟨a, b, ws, ys, rfl, rfl, ha, hb, by rw [repK_len p1, repK_len p2], fun i k v hi => ?_⟩
  obtain ⟨p, hp, rfl, rv⟩ := repK_at p1 hi
  rw [List.getElem?_map] at hp
  cases q : t[i]? with
  | none =>
    rw [q] at hp
    cases hp
  | some z =>
    rw [q] at hp
    cases hp
    have hz := List.mem_of_getElem? q
    have hne : (!t.isEmpty) = true := by
      cases t with
      | nil => simp at hz
      | cons _ _ => rfl
    have := repK_look (k := z.1) p2
    rw [look_at nd q] at this
    obtain ⟨u, hu, ru⟩ := repM_some this
    refine ⟨u, hu, fun od ob => ?_⟩
    by_cases e : a = b
    · subst e
      obtain ⟨_, s1⟩ := s.lock (od := ob) h2 (hL a) (k1 _ p2)
      refine ⟨z.2, lset L a (ob, !t.isEmpty), H0, h z hz _ ?_, ?_, rv, ru⟩
      · intro c o hc
        by_cases hca : c = a
        · subst hca
          rw [lset_same] at hc
          cases hc
          exact .inr hne
        · rw [lset_ne hca] at hc
          exact .inl hc
      · rw [lk2, upd_upd]
        exact s1.nom
    · obtain ⟨_, s1⟩ := s.lock (od := od) h1 (hL a) (k1 _ p1)
      obtain ⟨_, s2⟩ := s1.lock (od := ob) h2 (by rw [lset_ne (fun z => e z.symm)]; exact hL b) (k1 _ p2)
      refine ⟨z.2, _, H0, h z hz _ ?_, s2.nom, rv, ru⟩
      intro c o hc
      by_cases hcb : c = b
      · subst hcb
        rw [lset_same] at hc
        cases hc
        exact .inr hne
      · rw [lset_ne hcb] at hc
        by_cases hca : c = a
        · subst hca
          rw [lset_same] at hc
          cases hc
          exact .inr hne
        · rw [lset_ne hca] at hc
          exact .inl hc
end
end
end K85
set_option maxRecDepth 100000
set_option maxHeartbeats 4000000
/-! the worlds' == -/
namespace K85
open PySem L2
open C8 (Cal Met Mak pe_c pe_mk pe_mt pe_mt0 pe_gc)
local macro_rules | `(tactic| walk_at "sy1") => `(tactic| with_reducible first
  | refine r_seq ?_ | refine r_if ?_ | refine r_ret ?_ | refine r_retN ?_ | refine r_asg ?_ | refine r_drop ?_ | refine r_brk ?_ | refine r_cont ?_ | refine r_fld ?_ | refine r_dput ?_ | refine r_for ?_ | refine r_next ?_
  | refine g_name ?_ | refine g_tup ?_ | refine g_unl ?_ | refine g_cons ?_ | refine g_nil ?_
  | refine t_test ?_ | refine t_B ?_ | refine t_not ?_ | refine t_and ?_ | refine t_or ?_ | refine t_yes ?_
  | refine e_var rfl ?_ | refine e_int ?_ | refine e_str ?_ | refine e_bl ?_ | refine e_non ?_ | refine e_ref ?_ | refine e_op ?_ | refine e_un ?_ | refine e_andV ?_ | refine e_orV ?_ | refine e_notV ?_ | refine e_if ?_ | refine e_isN ?_ | refine e_notN ?_
  | refine e_tup ?_ | refine e_fld ?_ | refine e_call0 ?_ | refine e_meth0 ?_ | refine e_cb ?_ | refine e_bm ?_ | refine e_dget ?_ | refine e_dget1 ?_ | refine e_din ?_ | refine e_dnotin ?_ | refine e_chain ?_ | refine e_fcall ?_ | refine e_sm ?_
  | refine a_nil ?_ | refine a_cons ?_ | refine i_list ?_ | refine i_tup ?_ | refine i_seq ?_ | refine i_rng1 ?_ | refine i_str ?_
  | refine s_none ?_ | refine s_some ?_ | refine e_slL ?_ | refine e_slT ?_
  | refine o_II ?_ | refine o_IB ?_)
local macro_rules | `(tactic| walk_at "sy") => `(tactic| repeat (first | walk_at "sy1" | refine ⟨_, rfl, ?_⟩ | refine ⟨(rfl : List.lookup _ _ = none), ?_⟩))
local macro_rules | `(tactic| walk_at "eqF") => `(tactic| (refine o_eq rfl rfl rfl ?_; walk_at "sy"; refine iF (by decide +kernel) ?_; walk_at "sy"))
local macro_rules | `(tactic| walk_at "eqT") => `(tactic| (refine o_eq rfl rfl rfl ?_; walk_at "sy"; refine iT (by decide +kernel) ?_; walk_at "sy"))
local macro_rules | `(tactic| walk_at "pureEnd") => `(tactic| (rintro d M' ⟨rfl, rfl⟩))
abbrev s_Action___eq__ : Stmt := inClass (top 25) 3
theorem sc_Action___eq__ : FnScope ["self", "other"] ["self", "other"] (defScope s_Action___eq__) := ⟨rfl, rfl, rfl, by decide +kernel, rfl, by decide +kernel, by decide +kernel⟩
abbrev s_World_same_lists : Stmt := inClass (top 31) 21
theorem sc_World_same_lists : FnScope ["self", "other", "mine"] ["self", "other"] (defScope s_World_same_lists) := ⟨rfl, rfl, rfl, by decide +kernel, rfl, by decide +kernel, by decide +kernel⟩
abbrev s_World___eq__ : Stmt := inClass (top 31) 28
theorem sc_World___eq__ : FnScope ["self", "other"] ["self", "other"] (defScope s_World___eq__) := ⟨rfl, rfl, rfl, by decide +kernel, rfl, by decide +kernel, by decide +kernel⟩
abbrev DC (K : PySem.W.Frag) : Eqv := DData (dCond K) fun (t : Tr) _ => t.depth ≤ 5 ∧ t.names.length ≤ 5
abbrev DO (K : PySem.W.Frag) : Eqv := DData (dOut K) fun (o : Out) L => OutOk o ∧ NoFlat L
def AcOk (a : Act) : Prop := ActOk a ∧ a.need.depth ≤ 5 ∧ a.need.names.length ≤ 5
abbrev DA (K : PySem.W.Frag) : Eqv := DData (dAct K) fun (a : Act) L => AcOk a ∧ NoFlat L
abbrev DW (K : PySem.W.Frag) : Eqv := DData (dWd K) fun (v : Wd) L => WdOk v ∧ ∀ b, L b = none
abbrev S_Aeq (K : PySem.W.Frag) : FS := ⟨Act, fun a ds L _ => ds = [dAct K a, dAct K a] ∧ AcOk a ∧ NoFlat L, fun a M d M' => M = M' ∧ d = .b true⟩
abbrev S_sl (K : PySem.W.Frag) : FS := pureS Wd (fun v => [dWd K v, dWd K v]) (fun _ => True) (fun _ => .b true)
abbrev S_Weq (K : PySem.W.Frag) : FS := ⟨Wd, fun v ds L _ => ds = [dWd K v, dWd K v] ∧ WdOk v ∧ ∀ b, L b = none, fun v M d M' => M = M' ∧ d = .b true⟩
section
variable {X : Cx} {k : Nat}
theorem op_eqC (c : Dun X.prog X.w X.K X.mg X.base 8 (cl X.K "Condition") "__eq__" (S_Ceq X.K).sp) (hr : Room k X.A) (h : 8 ≤ k) : OpR X (compareOp .Eq) (rEqG (DC X.K)) :=
  op_eqG (rcG_data c (fun a => ⟨_, rfl⟩) fun t L h => ⟨t, ⟨rfl, h⟩, fun d M' q => q.1⟩) (hr.mono h)
theorem op_eqOs (c : Dun X.prog X.w X.K X.mg X.base 1 (cl X.K "Outcome") "__eq__" (S_Oeq X.K).sp) (hr : Room k X.A) (h : 2 ≤ k) : OpR X (compareOp .Eq) (rEqG (DList (DO X.K))) :=
  op_eqG (rcG_list mon_data (eqG_data (rcG_data c (fun a => ⟨_, rfl⟩) fun t L h => ⟨t, ⟨rfl, h⟩, fun d M' q => q.2⟩) fun a => ⟨_, rfl⟩)) (hr.mono h)
theorem op_eqLs (hr : Room k X.A) (h : 2 ≤ k) : OpR X (compareOp .Eq) (rEqG (DTup X.K (DList DFlat))) := op_eqG (rcG_tup (mon_list mon_flat) (eqG_list mon_flat eqG_flat)) (hr.mono h)
theorem op_eqSs (hr : Room k X.A) (h : 1 ≤ k) : OpR X (compareOp .Eq) (rEqG (DList DFlat)) := op_eqG (rcG_list mon_flat eqG_flat) (hr.mono h)
theorem op_eqAs (c : Dun X.prog X.w X.K X.mg X.base 9 (cl X.K "Action") "__eq__" (S_Aeq X.K).sp) (hr : Room k X.A) (h : 10 ≤ k) : OpR X (compareOp .Eq) (rEqG (DDict (DA X.K))) :=
  op_eqG (rcG_dict mon_data (eqG_data (rcG_data c (fun a => ⟨_, rfl⟩) fun t L h => ⟨t, ⟨rfl, h⟩, fun d M' q => q.2⟩) fun a => ⟨_, rfl⟩)) (hr.mono h)
theorem op_eqWs (c : Dun X.prog X.w X.K X.mg X.base 11 (cl X.K "World") "__eq__" (S_Weq X.K).sp) (hr : Room k X.A) (h : 12 ≤ k) : OpR X (compareOp .Eq) (rEqG (DList (DW X.K))) :=
  op_eqG (rcG_list mon_data (eqG_data (rcG_data c (fun a => ⟨_, rfl⟩) fun t L h => ⟨t, ⟨rfl, h⟩, fun d M' q => q.2⟩) fun a => ⟨_, rfl⟩)) (hr.mono h)
end
section
variable {L : Lk} {M : Mm} {K : PySem.W.Frag}
theorem d_strs {xs : List Str} : ∀ H0 H v u, SV L M H0 H → Rep H0 (.lst (dStrs xs)) v → Rep H0 (.lst (dStrs xs)) u → DList DFlat v u H := fun H0 H v u s r1 r2 => by
  unfold Rep at r1 r2
  obtain ⟨a, ys, rfl, h1, p1⟩ := r1
  obtain ⟨b, zs, rfl, h2, p2⟩ := r2
  refine ⟨a, b, ys, zs, rfl, rfl, s.nd h1 nd_lst, s.nd h2 nd_lst, prs_rep p1 p2 rfl fun i d e x y e1 e2 q1 q2 => ?_⟩
  rw [e1] at e2
  cases e2
  obtain ⟨z, rfl⟩ : ∃ z, d = .s z := by
    unfold dStrs at e1
    rw [List.getElem?_map] at e1
    cases q : xs[i]? with
    | none =>
      rw [q] at e1
      cases e1
    | some z =>
      rw [q] at e1
      cases e1
      exact ⟨z, rfl⟩
  unfold Rep at q1 q2
  subst q1 q2
  exact ⟨rfl, rfl, by simp [eqV]⟩
theorem d_tupL {ls : List (List Str)} : ∀ H0 H v u, SV L M H0 H → Rep H0 (.tup (ls.map fun l => .lst (dStrs l))) v → Rep H0 (.tup (ls.map fun l => .lst (dStrs l))) u → DTup K (DList DFlat) v u H := fun H0 H v u s r1 r2 => by
  unfold Rep at r1 r2
  obtain ⟨a, ys, rfl, h1, p1⟩ := r1
  obtain ⟨b, zs, rfl, h2, p2⟩ := r2
  refine ⟨a, b, ys, zs, rfl, rfl, SqT.of (s.nd h1 nd_tup), SqT.of (s.nd h2 nd_tup), prs_rep p1 p2 rfl fun i d e x y e1 e2 q1 q2 => ?_⟩
  rw [e1] at e2
  cases e2
  obtain ⟨l, hl, rfl⟩ := at_map e1
  exact d_strs H0 H x y s q1 q2
end
section
variable {P : Program} {w : World} {K : PySem.W.Frag} {mg : Str → Option Value} {base : Heap}
theorem ok_Aeq (T : Tx K mg) (D : Md K (cl K "Action") "__eq__" "Action.__eq__" s_Action___eq__) (dCe : Dun P w K mg base 8 (cl K "Condition") "__eq__" (S_Ceq K).sp) (dOe : Dun P w K mg base 1 (cl K "Outcome") "__eq__" (S_Oeq K).sp) : Dun P w K mg base 9 (cl K "Action") "__eq__" (S_Aeq K).sp := by
  refine dun_sym D sc_Action___eq__ (fun _ _ _ _ _ _ us hl => match us, hl with | [_, _], _ => rfl) (fun a ds L M h => by obtain ⟨rfl, _⟩ := h; rfl) (fun f cdv A outer s H E hr => ⟨_, pss_one (ps_ret (pe_and (pe_callB (C8.call_isC T.i_Action) (by rfl) T.f_isinstance (by decide +kernel) (pa_cons (pv 1) (pa_cons (pe_gr rfl T.g_Action) pa_nil))) (pe_and (pe_cmpR (op_eqC dCe hr (by omega)) (pe_fld (pv 0) rfl) (pe_fld (pv 1) rfl) (nomark _)) (pe_one (pe_cmpR (op_eqOs dOe hr (by omega)) (pe_fld (pv 0) rfl) (pe_fld (pv 1) rfl) (nomark _)))))), fun a ds L M h => ?_⟩)
  obtain ⟨rfl, ha, hn⟩ := h
  have ha : AcOk a := ha
  walk_at "sy"
  refine c_isC ⟨_, rfl⟩ ?_
  refine ⟨_, rfl, iT rfl ?_⟩
  walk_at "sy"
  refine ⟨_, _, dCond K a.need, rfl, T.cAct, T.n_need, rfl, ?_⟩
  walk_at "sy"
  refine ⟨_, _, _, rfl, T.cAct, T.n_need, rfl, ?_⟩
  refine o_eqG (D := DC K) (d_data (f := dCond K) (a := a.need) ha.2) ⟨_, rfl, iT rfl ?_⟩
  walk_at "sy"
  refine ⟨_, _, .lst (a.parts.map (dOut K)), rfl, T.cAct, T.n_parts, rfl, ?_⟩
  walk_at "sy"
  refine ⟨_, _, _, rfl, T.cAct, T.n_parts, rfl, ?_⟩
  exact o_eqG (D := DList (DO K)) (d_list fun o ho => ⟨ha.1.out o ho, hn⟩) ⟨rfl, rfl⟩
theorem ok_sl (T : Tx K mg) (D : Md K (cl K "World") "same_lists" "World.same_lists" s_World_same_lists) : Met P w K mg base 3 (cl K "World") "same_lists" (S_sl K).sp [] := by
  refine met_sym T.cWd D sc_World_same_lists (fun _ _ _ _ _ _ us hl => match us, hl with | [_, _], _ => rfl) (fun a ds L M h => by obtain ⟨rfl, _⟩ := h; rfl) (fun f cdv A outer s H E hr => ⟨_, pss_cons (ps_set (i := 2) sc_World_same_lists.nd rfl (Or.inl rfl) (pe_tup (pa_cons (pe_fld (pv 0) rfl) (pa_cons (pe_fld (pv 0) rfl) (pa_cons (pe_fld (pv 0) rfl) pa_nil))))) (pss_one (ps_ret (pe_cmpR (op_eqLs hr (by omega)) (pv 2) (pe_tup (pa_cons (pe_fld (pv 1) rfl) (pa_cons (pe_fld (pv 1) rfl) (pa_cons (pe_fld (pv 1) rfl) pa_nil)))) (nomark _)))), fun (v : Wd) ds L M h => ?_⟩)
  obtain ⟨rfl, _⟩ := h
  walk_at "sy"
  refine ⟨_, _, .lst (dStrs v.facts), rfl, T.cWd, T.n_facts, rfl, ?_⟩
  walk_at "sy"
  refine ⟨_, _, .lst (dStrs v.piles), rfl, T.cWd, T.n_piles, rfl, ?_⟩
  walk_at "sy"
  refine ⟨_, _, .lst (dStrs v.reserves), rfl, T.cWd, T.n_reserves, rfl, ?_⟩
  walk_at "sy"
  refine ⟨by simp, ?_⟩
  walk_at "sy"
  refine ⟨_, _, .lst (dStrs v.facts), rfl, T.cWd, T.n_facts, rfl, ?_⟩
  walk_at "sy"
  refine ⟨_, _, .lst (dStrs v.piles), rfl, T.cWd, T.n_piles, rfl, ?_⟩
  walk_at "sy"
  refine ⟨_, _, .lst (dStrs v.reserves), rfl, T.cWd, T.n_reserves, rfl, ?_⟩
  walk_at "sy"
  refine ⟨by simp, ?_⟩
  exact o_eqG (D := DTup K (DList DFlat)) (d_tupL (ls := [v.facts, v.piles, v.reserves])) ⟨rfl, rfl⟩
theorem ok_Weq (T : Tx K mg) (D : Md K (cl K "World") "__eq__" "World.__eq__" s_World___eq__) (mL : Met P w K mg base 3 (cl K "World") "same_lists" (S_sl K).sp []) (dAe : Dun P w K mg base 9 (cl K "Action") "__eq__" (S_Aeq K).sp) : Dun P w K mg base 11 (cl K "World") "__eq__" (S_Weq K).sp := by
  refine dun_sym D sc_World___eq__ (fun _ _ _ _ _ _ us hl => match us, hl with | [_, _], _ => rfl) (fun a ds L M h => by obtain ⟨rfl, _⟩ := h; rfl) (fun f cdv A outer s H E hr => ⟨_, pss_cons (ps_if (PW.pt (pw_or (pt_not (pt_val (pe_callB (C8.call_isC T.i_World) (by rfl) T.f_isinstance (by decide +kernel) (pa_cons (pv 1) (pa_cons (pe_gr rfl T.g_World) pa_nil))))) (pw_or1 (pt_not (pt_val (pe_mt mL hr (by omega) (pv 0) (pa_cons (pv 1) pa_nil))))))) (pss_one (ps_ret pe_bl)) pss_nil) (pss_one (ps_ret (pe_and (pe_cmpR (op_eqSs hr (by omega)) (pe_callTy (call_list_dK rfl) (by rfl) T.f_list (by decide +kernel) (pa_cons (pe_fld (pv 0) rfl) pa_nil)) (pe_callTy (call_list_dK rfl) (by rfl) T.f_list (by decide +kernel) (pa_cons (pe_fld (pv 1) rfl) pa_nil)) (nomark _)) (pe_one (pe_cmpR (op_eqAs dAe hr (by omega)) (pe_fld (pv 0) rfl) (pe_fld (pv 1) rfl) (nomark _)))))), fun (v : Wd) ds L M h => ?_⟩)
  obtain ⟨rfl, hv, hL⟩ := h
  have hv : WdOk v := hv
  walk_at "sy"
  refine c_isC ⟨_, rfl⟩ ?_
  refine ⟨_, rfl, iF rfl ?_⟩
  walk_at "sy"
  refine ⟨v, ⟨rfl, trivial⟩, ?_⟩
  rintro d M2 ⟨rfl, rfl⟩
  refine ⟨_, rfl, iF rfl ?_⟩
  walk_at "sy"
  refine ⟨_, _, .dK (kTab K v.table), rfl, T.cWd, T.n_table, rfl, ?_⟩
  walk_at "sy"
  refine c_listK rfl (unl0 hL) ?_
  walk_at "sy"
  refine ⟨_, _, .dK (kTab K v.table), rfl, T.cWd, T.n_table, rfl, ?_⟩
  walk_at "sy"
  refine c_listK rfl (unl0 hL) ?_
  refine o_eqG (D := DList DFlat) d_strs ⟨_, rfl, iT rfl ?_⟩
  walk_at "sy"
  refine ⟨_, _, .dK (kTab K v.table), rfl, T.cWd, T.n_table, rfl, ?_⟩
  walk_at "sy"
  refine ⟨_, _, .dK (kTab K v.table), rfl, T.cWd, T.n_table, rfl, ?_⟩
  refine o_eqG (D := DDict (DA K)) (d_dict (f := dAct K) hv.nd lkd_tab (fun p hp L' h => ?_) hL) ⟨rfl, rfl⟩
  have hp := hv.act p hp
  refine ⟨⟨hp.ok, hp.dep⟩, fun a o e => ?_⟩
  rcases h a o e with q | q
  · rw [hL] at q
    cases q
  · exact q
end
end K85
set_option maxRecDepth 100000
set_option maxHeartbeats 1000000
/-! rules for the law's defs -/
namespace K85
open PySem L2
section
variable {L : Lk} {Γ : Gm} {M : Mm} {P : Dt → Mm → Prop} {K : PySem.W.Frag}
theorem o_I {C : Int → Int → Prop} {f : Int → Int → Int} {m n : Int} (h : C m n) (k : P (.i (f m n)) M) : Op L M (rI C fun i j => .int (f i j)) (.i m) (.i n) P := fun H0 H v w Q s rx ry q => by
  unfold Rep at rx ry
  subst rx ry
  exact ⟨m, n, rfl, rfl, h, q _ (.i (f m n)) M H0 H (Same.refl _) s (by unfold Rep; rfl) k⟩
theorem repL_erase {H : Hp} : ∀ {ds : List Dt} {xs : List V} (i : Nat), RepL H ds xs → RepL H (ds.eraseIdx i) (xs.eraseIdx i)
  | [], xs, i, r => by
    unfold RepL at r
    subst r
    simp
    unfold RepL
    rfl
  | d :: ds, xs, i, r => by
    unfold RepL at r
    obtain ⟨x, y, rfl, r1, r2⟩ := r
    cases i with
    | zero => exact r2
    | succ i =>
      show RepL H (d :: ds.eraseIdx i) (x :: y.eraseIdx i)
      exact repL_cons r1 (repL_erase i r2)
theorem m_popAt {a : Addr} {ds : List Dt} {n : Nat} (hM : M a = some (.lst ds)) (hn : n < 2 ^ 62) (hd : ds[n]? = some d) (k : P d (mset M a (.lst (ds.eraseIdx n)))) : Mt L M rPopAt (.adr a) [.i ((n : Nat) : Int)] P := fun H0 H v vs Q s rx rs q => by
  unfold Rep at rx
  subst rx
  obtain ⟨h0, uu, hu, xs, rfl, hf⟩ := s.own a _ hM
  obtain ⟨y, rfl, r1⟩ := one_rep rs
  unfold Rep at r1
  subst r1
  obtain ⟨z, h1, h2⟩ := repL_get hf hd
  have hl := repL_len hf
  have hlt := (List.getElem?_eq_some_iff.mp hd).1
  refine ⟨a, xs, (n : Int), n, z, rfl, rfl, hu, by omega, by omega, ?_, h1, ?_⟩
  · unfold seqIndex?
    have e1 : ¬ (n : Int) < 0 := by omega
    simp only [e1, if_false]
    rw [if_pos (by simp; omega)]
    simp
  · exact q z d _ H0 _ (Same.refl _) (s.wr (d := .lst (ds.eraseIdx n)) (u := .lst (xs.eraseIdx n)) hM ⟨_, rfl, repL_erase n hf⟩) h2 k
abbrev rLenS (K : PySem.W.Frag) : List V → Hp → VK → Prop := fun xs H Q => ∃ p ys, xs = [V.ref p] ∧ (SqL K H p ys ∨ SqT K H p ys) ∧ Q (V.int ys.length) H
abbrev rInt1 : List V → Hp → VK → Prop := fun xs H Q => (∃ i, xs = [.int i] ∧ Q (.int i) H) ∨ ∃ k, xs = [.bl k] ∧ Q (.int (if k then 1 else 0)) H
theorem c_int {n : Int} (k : P (.i n) M) : Cb L M rInt1 [.i n] P := fun H0 H vs Q s rs q => by
  obtain ⟨v, rfl, r⟩ := one_rep rs
  unfold Rep at r
  subst r
  exact .inl ⟨n, rfl, q _ (.i n) M H0 H (Same.refl _) s (by unfold Rep; rfl) k⟩
def dInts (is : List Int) : List Dt := is.map .i
def pdIs (is : List Int) : List PyData := is.map .int
theorem repL_ints {H : Hp} : ∀ {is : List Int} {xs : List V}, RepL H (dInts is) xs → xs = is.map .int
  | [], xs, h => by
    unfold dInts at h
    rw [List.map_nil] at h
    unfold RepL at h
    exact h
  | i :: is, xs, h => by
    unfold dInts at h
    rw [List.map_cons] at h
    unfold RepL at h
    obtain ⟨x, r, rfl, h1, h2⟩ := h
    unfold Rep at h1
    subst h1
    rw [repL_ints h2]
    rfl
theorem dpAll_ints {H : Hp} : ∀ is : List Int, DpAll K H (is.map V.int) (pdIs is)
  | [] => .nil
  | x :: xs => .cons (.int x) (dpAll_ints xs)
theorem lay_ints : ∀ is : List Int, PyData.canLayAll0 (pdIs is) = true
  | [] => by unfold pdIs; rfl
  | x :: xs => by
    have h2 := lay_ints xs
    show PyData.canLayAll0 (.int x :: pdIs xs) = true
    simp only [PyData.canLayAll0, PyData.canLay0, h2]
    rfl
theorem depth_ints : ∀ is : List Int, PyData.depthAll (pdIs is) = 0
  | [] => rfl
  | x :: xs => by
    show max (PyData.depth (.int x)) (PyData.depthAll (pdIs xs)) = 0
    rw [depth_ints xs]
    rfl
theorem shaped_ints {is : List Int} : SeqAt.shaped (.list (pdIs is)) = true := by
  unfold SeqAt.shaped
  have e : PyData.depth (.list (pdIs is)) = 1 := by show PyData.depthAll (pdIs is) + 1 = 1; rw [depth_ints]
  rw [e]
  show (PyData.canLayAll0 (pdIs is) && decide (1 ≤ 64)) = true
  rw [lay_ints is]
  rfl
theorem o_neI0 {x : Dt} {is : List Int} (hx : vw M x = .lst (dInts is)) (k : P (.b (!is.isEmpty)) M) : Op L M (rNeD K) x (.lst []) P := fun H0 H v w Q s rx ry q => by
  obtain ⟨a, vs, rfl, ha, hr⟩ := s.lst rx hx
  have e := repL_ints hr
  subst e
  obtain ⟨b, ws, rfl, hb, hr2⟩ := s.lst (ds := []) ry rfl
  unfold RepL at hr2
  subst hr2
  refine ⟨_, _, .lst (SqL.of ha) (dpAll_ints is), .lst (SqL.of hb) .nil, shaped_ints, (by decide +kernel), q _ (.b (!is.isEmpty)) M H0 H (Same.refl _) s ?_ k⟩
  unfold Rep
  cases is <;> rfl
end
end K85
set_option maxRecDepth 100000
set_option maxHeartbeats 4000000
/-! the law's draws -/
namespace K85
open PySem L2
open C8 (Cal Met Mak pe_c pe_mk pe_mt pe_mt0 pe_gc)
local macro_rules | `(tactic| walk_at "sy1") => `(tactic| with_reducible first
  | refine r_seq ?_ | refine r_if ?_ | refine r_ret ?_ | refine r_retN ?_ | refine r_asg ?_ | refine r_drop ?_ | refine r_brk ?_ | refine r_cont ?_ | refine r_fld ?_ | refine r_dput ?_ | refine r_for ?_ | refine r_next ?_
  | refine g_name ?_ | refine g_tup ?_ | refine g_unl ?_ | refine g_cons ?_ | refine g_nil ?_
  | refine t_test ?_ | refine t_B ?_ | refine t_not ?_ | refine t_and ?_ | refine t_or ?_ | refine t_yes ?_
  | refine e_var rfl ?_ | refine e_int ?_ | refine e_str ?_ | refine e_bl ?_ | refine e_non ?_ | refine e_ref ?_ | refine e_op ?_ | refine e_un ?_ | refine e_andV ?_ | refine e_orV ?_ | refine e_notV ?_ | refine e_if ?_ | refine e_isN ?_ | refine e_notN ?_
  | refine e_tup ?_ | refine e_fld ?_ | refine e_call0 ?_ | refine e_meth0 ?_ | refine e_cb ?_ | refine e_bm ?_ | refine e_dget ?_ | refine e_dget1 ?_ | refine e_din ?_ | refine e_dnotin ?_ | refine e_chain ?_ | refine e_fcall ?_ | refine e_sm ?_
  | refine a_nil ?_ | refine a_cons ?_ | refine i_list ?_ | refine i_tup ?_ | refine i_seq ?_ | refine i_rng1 ?_ | refine i_str ?_
  | refine s_none ?_ | refine s_some ?_ | refine e_slL ?_ | refine e_slT ?_
  | refine o_II ?_ | refine o_IB ?_)
local macro_rules | `(tactic| walk_at "sy") => `(tactic| repeat (first | walk_at "sy1" | refine ⟨_, rfl, ?_⟩ | refine ⟨(rfl : List.lookup _ _ = none), ?_⟩))
local macro_rules | `(tactic| walk_at "eqF") => `(tactic| (refine o_eq rfl rfl rfl ?_; walk_at "sy"; refine iF (by decide +kernel) ?_; walk_at "sy"))
local macro_rules | `(tactic| walk_at "eqT") => `(tactic| (refine o_eq rfl rfl rfl ?_; walk_at "sy"; refine iT (by decide +kernel) ?_; walk_at "sy"))
local macro_rules | `(tactic| walk_at "pureEnd") => `(tactic| (rintro d M' ⟨rfl, rfl⟩))
abbrev s__law_draw : Stmt := top 49
theorem sc__law_draw : FnScope ["_law_stream", "_law_many", "_law_mixed_here", "_law_digit"] ["_law_stream", "_law_many"] (defScope s__law_draw) := ⟨rfl, rfl, rfl, by decide +kernel, rfl, by decide +kernel, by decide +kernel⟩
/-- the stream at p, its script's list at sc; n draws so far -/
def Stm (M : Mm) (p sc : Addr) (n : Nat) : Prop := ∃ (is : List Int) (a y : Int), M p = some (.lst [.adr sc, .i a, .i ((n : Nat) : Int), .i y]) ∧ M sc = some (.lst (dInts is)) ∧ p ≠ sc ∧ 0 ≤ y ∧ y < 2147483647
def Frm (p sc : Addr) (M M' : Mm) : Prop := ∀ b, b ≠ p → b ≠ sc → M' b = M b
theorem Frm.refl {p sc : Addr} {M : Mm} : Frm p sc M M := fun _ _ _ => rfl
theorem Frm.trans {p sc : Addr} {M M1 M2 : Mm} (h : Frm p sc M M1) (k : Frm p sc M1 M2) : Frm p sc M M2 := fun b h1 h2 => (k b h1 h2).trans (h b h1 h2)
theorem Stm.mset {M : Mm} {p sc a : Addr} {n : Nat} {d : Dt} (h : Stm M p sc n) (h1 : a ≠ p) (h2 : a ≠ sc) : Stm (mset M a d) p sc n := by
  obtain ⟨is, x, y, e1, e2, e3⟩ := h
  exact ⟨is, x, y, by rw [mset_ne h1.symm]; exact e1, by rw [mset_ne h2.symm]; exact e2, e3⟩
theorem Stm.mdel {M : Mm} {p sc a : Addr} {n : Nat} (h : Stm M p sc n) (h1 : a ≠ p) (h2 : a ≠ sc) : Stm (mdel M a) p sc n := by
  obtain ⟨is, x, y, e1, e2, e3⟩ := h
  exact ⟨is, x, y, by rw [mdel_ne h1.symm]; exact e1, by rw [mdel_ne h2.symm]; exact e2, e3⟩
theorem Stm.ne {M : Mm} {p sc a : Addr} {n : Nat} (h : Stm M p sc n) (h1 : M a = none) : a ≠ p ∧ a ≠ sc := by
  obtain ⟨is, x, y, e1, e2, e3⟩ := h
  exact ⟨fun z => (by rw [z, e1] at h1; cases h1), fun z => (by rw [z, e2] at h1; cases h1)⟩
/-- a new thing on top -/
theorem Stm.new {M : Mm} {p sc a : Addr} {n : Nat} {d : Dt} (h : Stm M p sc n) (h1 : M a = none) : Stm (K85.mset M a d) p sc n := h.mset (h.ne h1).1 (h.ne h1).2
abbrev S_draw : FS := ⟨Addr × Addr × Nat × Nat, fun q ds L M => ds = [.adr q.1, .i ((q.2.2.2 : Nat) : Int)] ∧ Stm M q.1 q.2.1 q.2.2.1 ∧ q.2.2.1 < 100000 ∧ 0 < q.2.2.2 ∧ q.2.2.2 ≤ 1000,
  fun q M d M' => ∃ k : Nat, k < q.2.2.2 ∧ d = .i ((k : Nat) : Int) ∧ Stm M' q.1 q.2.1 (q.2.2.1 + 1) ∧ Frm q.1 q.2.1 M M'⟩
section
variable {P : Program} {w : World} {K : PySem.W.Frag} {mg : Str → Option Value} {base : Heap}
theorem ok_draw (T : Tx K mg) (D : Df K mg "_law_draw" s__law_draw) : Cal P w K mg base 1 "_law_draw" S_draw.sp [] := by
  refine cal_sym D sc__law_draw (fun _ _ _ _ _ _ us hl => match us, hl with | [_, _], _ => rfl) (fun a ds L M h => by obtain ⟨rfl, _⟩ := h; rfl) (fun f cdv A outer s H E hr => ⟨_, pss_cons (ps_asg (pe_op op_add (pe_ix ix_list (pv 0) pe_int (fun _ _ => rfl)) pe_int) (pg_sub (pv 0) pe_int set_list)) (pss_cons (ps_if (PW.pt (pw_and (pt_cmpR op_eq (pe_ix ix_list (pv 0) pe_int (fun _ _ => rfl)) pe_int (nomark _)) (pw_and1 (pt_cmpR (op_neD (hu64 hr)) (pe_ix ix_list (pv 0) pe_int (fun _ _ => rfl)) (pe_lst pa_nil) (nomark _))))) (pss_cons (ps_asg (pe_bm PySem.F.plainAttrs_list PySem.F.slot_list_pop PySem.F.type_list_pop mt_popAt (pe_ix ix_list (pv 0) pe_int (fun _ _ => rfl)) (pa_cons pe_int pa_nil)) (pg_sub (pv 0) pe_int set_list)) (pss_one (ps_if (pt_cmpR op_lt (pe_ix ix_list (pv 0) pe_int (fun _ _ => rfl)) (pe_op op_pow pe_int pe_int) (nomark _)) (pss_cons (ps_asg (pe_op op_mod (pe_callTy call_int1 (by rfl) T.f_int (by decide +kernel) (pa_cons (pe_op op_add (pe_op op_add (pe_op op_mul (pe_ix ix_list (pv 0) pe_int (fun _ _ => rfl)) pe_int) (pe_ix ix_list (pv 0) pe_int (fun _ _ => rfl))) pe_int) pa_nil)) pe_int) (pg_sub (pv 0) pe_int set_list)) (pss_one (ps_asg pe_int (pg_sub (pv 0) pe_int set_list)))) pss_nil))) pss_nil) (pss_cons (ps_if (pt_cmpR op_gt (pe_ix ix_list (pv 0) pe_int (fun _ _ => rfl)) pe_int (nomark _)) (pss_cons (ps_set (i := 3) sc__law_draw.nd rfl (Or.inl rfl) (pe_op op_mod (pe_callTy call_int1 (by rfl) T.f_int (by decide +kernel) (pa_cons (pe_ix ix_list (pv 0) pe_int (fun _ _ => rfl)) pa_nil)) (pv 1))) (pss_cons (ps_asg (pe_op op_fdivN (pe_ix ix_list (pv 0) pe_int (fun _ _ => rfl)) (pv 1)) (pg_sub (pv 0) pe_int set_list)) (pss_one (ps_ret (pv 3))))) pss_nil) (pss_cons (ps_set (i := 2) sc__law_draw.nd rfl (Or.inl rfl) (pe_op op_mod (pe_op op_pow (pe_op op_add (pe_op op_add (pe_ix ix_list (pv 0) pe_int (fun _ _ => rfl)) (pe_op op_mul pe_int (pe_ix ix_list (pv 0) pe_int (fun _ _ => rfl)))) pe_int) pe_int) pe_int)) (pss_one (ps_ret (pe_op op_mod (pe_op op_mod (pe_op op_pow (pe_op op_add (pe_op op_add (pe_op op_mul (pv 2) pe_int) (pe_op op_mul (pe_op op_mul pe_int (pe_ix ix_list (pv 0) pe_int (fun _ _ => rfl))) (pe_ix ix_list (pv 0) pe_int (fun _ _ => rfl)))) pe_int) pe_int) pe_int) (pv 1))))))), fun (p, sc, n, m) ds L M h => ?_⟩)
  obtain ⟨rfl, ⟨is, a, y, hp, hsc, hne, hy0, hy1⟩, hn, hm0, hm1⟩ := h
  have hp : M p = some (.lst [.adr sc, .i a, .i ((n : Nat) : Int), .i y]) := hp
  have hsc : M sc = some (.lst (dInts is)) := hsc
  have hne : p ≠ sc := hne
  have hn : n < 100000 := hn
  have hm0 : 0 < m := hm0
  have hm1 : m ≤ 1000 := hm1
  let St : List Int → Int → Int → Mm → Prop := fun is a y M' => M' p = some (.lst [.adr sc, .i a, .i ((n + 1 : Nat) : Int), .i y]) ∧ M' sc = some (.lst (dInts is)) ∧ Frm p sc M M'
  have st_p : ∀ {is a y M' d a' y'}, St is a y M' → d = Dt.lst [.adr sc, .i a', .i ((n + 1 : Nat) : Int), .i y'] → St is a' y' (mset M' p d) := fun {is a y M' d a' y'} h e => by
    subst e
    exact ⟨mset_same, by rw [mset_ne hne.symm]; exact h.2.1, fun b h1 h2 => by rw [mset_ne h1]; exact h.2.2 b h1 h2⟩
  walk_at "sy"
  refine o_ixL (n := 2) (vw_adr hp) rfl ?_
  walk_at "sy"
  refine g_subL (n := 0) ?_
  walk_at "sy"
  refine ⟨p, _, 2, rfl, hp, rfl, by simp, ?_⟩
  have h0 : St is a y (mset M p (.lst ([.adr sc, .i a, .i ((n : Nat) : Int), .i y].set 2 (.i ((n : Int) + 1))))) := ⟨by rw [mset_same]; simp, by rw [mset_ne hne.symm]; exact hsc, fun b h1 h2 => mset_ne h1⟩
  generalize mset M p (.lst ([.adr sc, .i a, .i ((n : Nat) : Int), .i y].set 2 (.i ((n : Int) + 1)))) = M1 at h0
  refine r_seqI (fun Γ' M2 => Γ' = [some (.adr p), some (.i ((m : Nat) : Int)), none, none] ∧ ∃ is a y, St is a y M2 ∧ 0 ≤ y ∧ y < 2147483647) ?_ ?_
  · walk_at "sy"
    refine o_ixL (n := 1) (vw_adr h0.1) rfl ?_
    walk_at "sy"
    refine o_eq rfl rfl rfl ⟨_, rfl, iB (fun e1 => ?_) (fun e1 => ?_)⟩
    · walk_at "sy"
      refine o_ixL (n := 0) (vw_adr h0.1) rfl ?_
      walk_at "sy"
      refine e_lst (a_nil ⟨by simp, ?_⟩)
      refine o_neI0 (is := is) (vw_adr h0.2.1) ⟨_, rfl, iB (fun e2 => ?_) (fun e2 => ?_)⟩
      · cases is with
        | nil => cases e2
        | cons x is =>
          walk_at "sy"
          refine o_ixL (n := 0) (vw_adr h0.1) rfl ?_
          walk_at "sy"
          refine ⟨_, vw_adr h0.2.1, ?_⟩
          walk_at "sy"
          refine m_popAt (n := 0) h0.2.1 (by decide) rfl ?_
          have h0' : St is a y (mset M1 sc (.lst (dInts is))) := ⟨by rw [mset_ne hne]; exact h0.1, mset_same, fun b h1 h2 => by rw [mset_ne h2]; exact h0.2.2 b h1 h2⟩
          show Gv L _ (mset M1 sc (.lst (dInts is))) _ _ _
          generalize mset M1 sc (.lst (dInts is)) = M2 at h0'
          refine g_subL (n := 0) ?_
          walk_at "sy"
          refine ⟨p, _, 1, rfl, h0'.1, rfl, by simp, ?_⟩
          have h1 := st_p (d := .lst ([.adr sc, .i a, .i ((n + 1 : Nat) : Int), .i y].set 1 (.i x))) (a' := x) (y' := y) h0' rfl
          generalize mset M2 p (.lst ([.adr sc, .i a, .i ((n + 1 : Nat) : Int), .i y].set 1 (.i x))) = M3 at h1
          walk_at "sy"
          refine o_ixL (n := 1) (vw_adr h1.1) rfl ?_
          walk_at "sy"
          refine o_I (by unfold CPow; decide) ?_
          walk_at "sy"
          refine iB (fun e3 => ?_) (fun e3 => ?_)
          · walk_at "sy"
            refine o_ixL (n := 3) (vw_adr h1.1) rfl ?_
            walk_at "sy"
            refine o_I (.inr (by decide)) ?_
            walk_at "sy"
            refine o_ixL (n := 1) (vw_adr h1.1) rfl ?_
            walk_at "sy"
            refine c_int ?_
            walk_at "sy"
            refine o_I (by decide) ?_
            have hy2 := Int.emod_nonneg (y * 31 + x + 7) (b := 2147483647) (by decide)
            have hy3 := Int.emod_lt_of_pos (y * 31 + x + 7) (b := 2147483647) (by decide)
            generalize (y * 31 + x + 7) % 2147483647 = y' at hy2 hy3
            refine g_subL (n := 0) ?_
            walk_at "sy"
            refine ⟨p, _, 3, rfl, h1.1, rfl, by simp, ?_⟩
            have h2 := st_p (d := .lst ([.adr sc, .i x, .i ((n + 1 : Nat) : Int), .i y].set 3 (.i y'))) (a' := x) (y' := y') h1 rfl
            generalize mset M3 p (.lst ([.adr sc, .i x, .i ((n + 1 : Nat) : Int), .i y].set 3 (.i y'))) = M4 at h2
            walk_at "sy"
            refine g_subL (n := 0) ?_
            walk_at "sy"
            refine ⟨p, _, 1, rfl, h2.1, rfl, by simp, ?_⟩
            exact ⟨rfl, is, 0, y', st_p h2 rfl, hy2, hy3⟩
          · walk_at "sy"
            exact ⟨rfl, is, x, y, h1, hy0, hy1⟩
      · walk_at "sy"
        exact ⟨rfl, is, a, y, h0, hy0, hy1⟩
    · refine iF rfl ?_
      walk_at "sy"
      exact ⟨rfl, is, a, y, h0, hy0, hy1⟩
  rintro Γ' M2 ⟨rfl, is, a, y, h0, hy0, hy1⟩
  walk_at "sy"
  refine o_ixL (n := 1) (vw_adr h0.1) rfl ?_
  walk_at "sy"
  refine iB (fun e1 => ?_) (fun e1 => ?_)
  · walk_at "sy"
    refine o_ixL (n := 1) (vw_adr h0.1) rfl ?_
    walk_at "sy"
    refine c_int ?_
    walk_at "sy"
    refine o_I (by omega) ?_
    have hk0 := Int.emod_nonneg a (b := (m : Int)) (by omega)
    have hk1 := Int.emod_lt_of_pos a (b := (m : Int)) (by omega)
    obtain ⟨k, hk⟩ : ∃ k : Nat, a % (m : Int) = (k : Int) := ⟨(a % (m : Int)).toNat, by omega⟩
    rw [hk] at hk1 ⊢
    walk_at "sy"
    refine o_ixL (n := 1) (vw_adr h0.1) rfl ?_
    walk_at "sy"
    refine o_I ⟨by omega, by omega⟩ ?_
    refine g_subL (n := 0) ?_
    walk_at "sy"
    refine ⟨p, _, 1, rfl, h0.1, rfl, by simp, ?_⟩
    have h1 := st_p (d := .lst ([.adr sc, .i a, .i ((n + 1 : Nat) : Int), .i y].set 1 (.i (a.fdiv m)))) (a' := a.fdiv m) (y' := y) h0 rfl
    generalize mset M2 p (.lst ([.adr sc, .i a, .i ((n + 1 : Nat) : Int), .i y].set 1 (.i (a.fdiv m)))) = M3 at h1
    walk_at "sy"
    exact ⟨k, (by show k < m; omega), rfl, ⟨is, _, y, h1.1, h1.2.1, hne, hy0, hy1⟩, h1.2.2⟩
  · walk_at "sy"
    refine o_ixL (n := 3) (vw_adr h0.1) rfl ?_
    walk_at "sy"
    refine o_ixL (n := 2) (vw_adr h0.1) rfl ?_
    refine o_I (.inl (by decide)) ?_
    walk_at "sy"
    refine o_I ⟨by decide, by decide, by omega⟩ ?_
    walk_at "sy"
    refine o_I (by decide) ?_
    have hz2 := Int.emod_nonneg ((y + 104729 * ((n + 1 : Nat) : Int) + 17) ^ (Int.toNat 5)) (b := 2147483629) (by decide)
    have hz3 := Int.emod_lt_of_pos ((y + 104729 * ((n + 1 : Nat) : Int) + 17) ^ (Int.toNat 5)) (b := 2147483629) (by decide)
    generalize (y + 104729 * ((n + 1 : Nat) : Int) + 17) ^ (Int.toNat 5) % 2147483629 = z at hz2 hz3
    walk_at "sy"
    refine o_I (.inr (by decide)) ?_
    walk_at "sy"
    refine o_ixL (n := 2) (vw_adr h0.1) rfl ?_
    refine o_I (.inl (by decide)) ?_
    walk_at "sy"
    refine o_ixL (n := 2) (vw_adr h0.1) rfl ?_
    refine o_I (.inr (by constructor <;> omega)) ?_
    have hq0 : (0 : Int) ≤ 40503 * ((n + 1 : Nat) : Int) * ((n + 1 : Nat) : Int) := Int.mul_nonneg (by omega) (by omega)
    have hq1 : 40503 * ((n + 1 : Nat) : Int) * ((n + 1 : Nat) : Int) ≤ (40503 * 100000) * 100000 := Int.mul_le_mul (by omega) (by omega) (by omega) (by decide)
    generalize 40503 * ((n + 1 : Nat) : Int) * ((n + 1 : Nat) : Int) = q at hq0 hq1
    walk_at "sy"
    refine o_I ⟨by decide, by decide, by omega⟩ ?_
    walk_at "sy"
    refine o_I (by decide) ?_
    generalize (z * 48271 + q + 13) ^ (Int.toNat 3) % 1000000007 = x
    walk_at "sy"
    refine o_I (by omega) ?_
    have hk0 := Int.emod_nonneg x (b := (m : Int)) (by omega)
    have hk1 := Int.emod_lt_of_pos x (b := (m : Int)) (by omega)
    obtain ⟨k, hk⟩ : ∃ k : Nat, x % (m : Int) = (k : Int) := ⟨(x % (m : Int)).toNat, by omega⟩
    rw [hk] at hk1
    exact ⟨k, (by show k < m; omega), congrArg Dt.i hk, ⟨is, a, y, h0.1, h0.2.1, hne, hy0, hy1⟩, h0.2.2⟩
end
end K85
set_option maxRecDepth 100000
set_option maxHeartbeats 4000000
/-! the law's draws: a pick, a mix -/
namespace K85
open PySem L2
open C8 (Cal Met Mak pe_c pe_mk pe_mt pe_mt0 pe_gc)
local macro_rules | `(tactic| walk_at "sy1") => `(tactic| with_reducible first
  | refine r_seq ?_ | refine r_if ?_ | refine r_ret ?_ | refine r_retN ?_ | refine r_asg ?_ | refine r_drop ?_ | refine r_brk ?_ | refine r_cont ?_ | refine r_fld ?_ | refine r_dput ?_ | refine r_for ?_ | refine r_next ?_
  | refine g_name ?_ | refine g_tup ?_ | refine g_unl ?_ | refine g_cons ?_ | refine g_nil ?_
  | refine t_test ?_ | refine t_B ?_ | refine t_not ?_ | refine t_and ?_ | refine t_or ?_ | refine t_yes ?_
  | refine e_var rfl ?_ | refine e_int ?_ | refine e_str ?_ | refine e_bl ?_ | refine e_non ?_ | refine e_ref ?_ | refine e_op ?_ | refine e_un ?_ | refine e_andV ?_ | refine e_orV ?_ | refine e_notV ?_ | refine e_if ?_ | refine e_isN ?_ | refine e_notN ?_
  | refine e_tup ?_ | refine e_fld ?_ | refine e_call0 ?_ | refine e_meth0 ?_ | refine e_cb ?_ | refine e_bm ?_ | refine e_dget ?_ | refine e_dget1 ?_ | refine e_din ?_ | refine e_dnotin ?_ | refine e_chain ?_ | refine e_fcall ?_ | refine e_sm ?_
  | refine a_nil ?_ | refine a_cons ?_ | refine i_list ?_ | refine i_tup ?_ | refine i_seq ?_ | refine i_rng1 ?_ | refine i_str ?_
  | refine s_none ?_ | refine s_some ?_ | refine e_slL ?_ | refine e_slT ?_
  | refine o_II ?_ | refine o_IB ?_)
local macro_rules | `(tactic| walk_at "sy") => `(tactic| repeat (first | walk_at "sy1" | refine ⟨_, rfl, ?_⟩ | refine ⟨(rfl : List.lookup _ _ = none), ?_⟩))
local macro_rules | `(tactic| walk_at "eqF") => `(tactic| (refine o_eq rfl rfl rfl ?_; walk_at "sy"; refine iF (by decide +kernel) ?_; walk_at "sy"))
local macro_rules | `(tactic| walk_at "eqT") => `(tactic| (refine o_eq rfl rfl rfl ?_; walk_at "sy"; refine iT (by decide +kernel) ?_; walk_at "sy"))
local macro_rules | `(tactic| walk_at "pureEnd") => `(tactic| (rintro d M' ⟨rfl, rfl⟩))
abbrev s__law_pick : Stmt := top 50
theorem sc__law_pick : FnScope ["_law_stream", "_law_some"] ["_law_stream", "_law_some"] (defScope s__law_pick) := ⟨rfl, rfl, rfl, by decide +kernel, rfl, by decide +kernel, by decide +kernel⟩
abbrev s__law_mixed : Stmt := top 51
theorem sc__law_mixed : FnScope ["_law_stream", "_law_some", "_law_left", "_law_k"] ["_law_stream", "_law_some"] (defScope s__law_mixed) := ⟨rfl, rfl, rfl, by decide +kernel, rfl, by decide +kernel, by decide +kernel⟩
abbrev S_pick : FS := ⟨Addr × Addr × Nat × List Str, fun q ds L M => let (p, sc, n, xs) := q
    ds = [.adr p, .lst (dStrs xs)] ∧ Stm M p sc n ∧ n < 100000 ∧ xs ≠ [] ∧ xs.length ≤ 1000,
  fun q M d M' => let (p, sc, n, xs) := q
    ∃ x ∈ xs, d = .s x ∧ Stm M' p sc (n + 1) ∧ Frm p sc M M'⟩
abbrev S_mixed : FS := ⟨Addr × Addr × Nat × List Str, fun q ds L M => let (p, sc, n, xs) := q
    ds = [.adr p, .lst (dStrs xs)] ∧ Stm M p sc n ∧ n < 90000 ∧ xs.length ≤ 1000,
  fun q M d M' => let (p, sc, n, xs) := q
    ∃ ys : List Str, (∀ y ∈ ys, y ∈ xs) ∧ ys.length = xs.length ∧ d = .lst (dStrs ys) ∧ Stm M' p sc (n + xs.length) ∧ Frm p sc M M'⟩
theorem dStrs_erase : ∀ (l : List Str) (k : Nat), (dStrs l).eraseIdx k = dStrs (l.eraseIdx k)
  | [], _ => rfl
  | _ :: _, 0 => rfl
  | x :: l, k + 1 => by
    show Dt.s x :: (dStrs l).eraseIdx k = Dt.s x :: dStrs (l.eraseIdx k)
    rw [dStrs_erase l k]
section
variable {P : Program} {w : World} {K : PySem.W.Frag} {mg : Str → Option Value} {base : Heap}
theorem ok_pick (T : Tx K mg) (D : Df K mg "_law_pick" s__law_pick) (cD : Cal P w K mg base 1 "_law_draw" S_draw.sp []) : Cal P w K mg base 2 "_law_pick" S_pick.sp [] := by
  refine cal_sym D sc__law_pick (fun _ _ _ _ _ _ us hl => match us, hl with | [_, _], _ => rfl) (fun a ds L M h => by obtain ⟨rfl, _⟩ := h; rfl) (fun f cdv A outer s H E hr => ⟨_, pss_one (ps_ret (pe_ix ix_list (pv 1) (pe_c cD hr (by omega) rfl (pa_cons (pv 0) (pa_cons (pe_callB call_len_seq (by rfl) T.f_len (by decide +kernel) (pa_cons (pv 1) pa_nil)) pa_nil))) (fun _ _ => rfl))), fun (p, sc, n, xs) ds L M h => ?_⟩)
  obtain ⟨rfl, hS, hn, hx, hl⟩ := h
  have hpos : 0 < xs.length := List.length_pos_iff.mpr hx
  have e1 : (dStrs xs).length = xs.length := by simp [dStrs]
  walk_at "sy"
  refine c_len (.inl rfl) ?_
  rw [e1]
  walk_at "sy"
  refine ⟨(p, sc, n, xs.length), ⟨rfl, hS, hn, hpos, hl⟩, ?_⟩
  rintro d M2 ⟨k, hk, rfl, hS2, hF⟩
  have hk : k < xs.length := hk
  refine o_ixL (n := k) (d := .s xs[k]) rfl (by unfold dStrs; rw [List.getElem?_map, List.getElem?_eq_getElem hk]; rfl) ?_
  exact ⟨xs[k], List.getElem_mem hk, rfl, hS2, hF⟩
theorem ok_mixed (T : Tx K mg) (D : Df K mg "_law_mixed" s__law_mixed) (cD : Cal P w K mg base 1 "_law_draw" S_draw.sp []) : Cal P w K mg base 2 "_law_mixed" S_mixed.sp [] := by
  refine cal_sym D sc__law_mixed (fun _ _ _ _ _ _ us hl => match us, hl with | [_, _], _ => rfl) (fun a ds L M h => by obtain ⟨rfl, _⟩ := h; rfl) (fun f cdv A outer s H E hr => ⟨_, pss_cons (ps_set (i := 2) sc__law_mixed.nd rfl (Or.inr rfl) (pe_callTy call_list_of (by rfl) T.f_list (by decide +kernel) (pa_cons (pv 1) pa_nil))) (pss_one (ps_ret (pe_lc (own := [("_law_k", 3)]) rfl sc__law_mixed.nd (pi_range1 (by rfl) T.f_range (pa_cons (pe_callB call_len_seq (by rfl) T.f_len (by decide +kernel) (pa_cons (pv 2) pa_nil)) pa_nil)) (blkOk_by (own := [("_law_k", 3)]) (N := ["_law_stream", "_law_some", "_law_left", "_law_k"]) (sc := defScope s__law_mixed) (by decide +kernel)) (fun _ _ _ _ _ => (pg_name (i := 3) sc__law_mixed.nd rfl (Or.inl rfl))) (fun _ _ _ _ _ => pts_nil) (fun _ _ _ _ _ => (show PE _ _ (tBM K _ _ _ _) from (pe_bm PySem.F.plainAttrs_list PySem.F.slot_list_pop PySem.F.type_list_pop mt_popAt (pv 2) (pa_cons (pe_c cD hr (by omega) rfl (pa_cons (pv 0) (pa_cons (pe_callB (show CallR _ _ (rLenS K) from call_len_seq) (by rfl) T.f_len (by decide +kernel) (pa_cons (pv 2) pa_nil)) pa_nil))) pa_nil))))))), fun (p, sc, n, xs) ds L M h => ?_⟩)
  obtain ⟨rfl, hS, hn, hl⟩ := h
  refine Run.post ?_
  walk_at "sy"
  refine c_listO (.inl rfl) fun l hl0 => ?_
  walk_at "sy"
  refine e_frz (e_lc (wo_name (by decide)) ?_)
  have e1 : (dStrs xs).length = xs.length := by simp [dStrs]
  have hlp := hS.ne hl0
  have hS1 := hS.new (d := .lst (dStrs xs)) hl0
  walk_at "sy"
  refine c_len (.inl (vw_adr mset_same)) ?_
  rw [e1]
  walk_at "sy"
  refine ⟨by omega, by omega, fun D hD => ?_⟩
  have hDp := hS1.ne hD
  have hDl : D ≠ l := fun z => by rw [z, mset_same] at hD; cases hD
  have hDM : M D = none := by rw [mset_ne hDl] at hD; exact hD
  have e2 : ((xs.length : Int)).toNat = xs.length := by omega
  have e3 : (rngD xs.length).length = xs.length := by unfold rngD; simp
  rw [e2]
  refine ⟨fun i M' => ∃ ys left, M' D = some (.lst (dStrs ys)) ∧ M' l = some (.lst (dStrs left)) ∧ Stm M' p sc (n + i) ∧ (∀ b, b ≠ p → b ≠ sc → b ≠ l → b ≠ D → M' b = M b) ∧ ys.length = i ∧ left.length + i = xs.length ∧ (∀ y ∈ ys, y ∈ xs) ∧ ∀ y ∈ left, y ∈ xs, ⟨[], xs, mset_same, by rw [mset_ne hDl.symm]; exact mset_same, hS1.new hD, fun b h1 h2 h3 h4 => by rw [mset_ne h4, mset_ne h3], rfl, rfl, (fun y h => nomatch h), fun y h => h⟩, ?_, ?_⟩
  · rintro i d M' hd ⟨ys, left, h1, h2, h3, h4, h5, h6, h7, h8⟩
    have hi : i < xs.length := by
      have := (List.getElem?_eq_some_iff.mp hd).1
      omega
    have e4 : (dStrs left).length = left.length := by simp [dStrs]
    walk_at "sy"
    refine iT rfl ?_
    walk_at "sy"
    refine ⟨_, vw_adr h2, ?_⟩
    walk_at "sy"
    refine c_len (.inl (vw_adr h2)) ?_
    rw [e4]
    walk_at "sy"
    refine ⟨(p, sc, n + i, left.length), ⟨rfl, h3, by show n + i < 100000; omega, by show 0 < left.length; omega, by show left.length ≤ 1000; omega⟩, ?_⟩
    rintro d2 M2 ⟨k, hk, rfl, hS2, hF⟩
    have hk : k < left.length := hk
    have h1' : M2 D = some (.lst (dStrs ys)) := by rw [hF D hDp.1 hDp.2]; exact h1
    have h2' : M2 l = some (.lst (dStrs left)) := by rw [hF l hlp.1 hlp.2]; exact h2
    walk_at "sy"
    refine m_popAt (n := k) (d := .s left[k]) h2' (by omega) (by unfold dStrs; rw [List.getElem?_map, List.getElem?_eq_getElem hk]; rfl) ?_
    have e5 : (dStrs left).eraseIdx k = dStrs (left.eraseIdx k) := by exact dStrs_erase left k
    have e6 : dStrs ys ++ [.s left[k]] = dStrs (ys ++ [left[k]]) := by simp [dStrs]
    rw [e5]
    refine ⟨dStrs ys, by rw [mset_ne hDl]; exact h1', by simp [dStrs]; omega, ys ++ [left[k]], left.eraseIdx k, by rw [mset_same, e6], by rw [mset_ne hDl.symm]; exact mset_same, (hS2.mset hlp.1 hlp.2).mset hDp.1 hDp.2, fun b g1 g2 g3 g4 => ?_, by simp [h5], ?_, fun y hy => ?_, fun y hy => h8 y (List.mem_of_mem_eraseIdx hy)⟩
    · rw [mset_ne g4, mset_ne g3, hF b g1 g2]
      exact h4 b g1 g2 g3 g4
    · rw [List.length_eraseIdx_of_lt hk]
      omega
    · rcases List.mem_append.mp hy with hy | hy
      · exact h7 y hy
      · rw [List.mem_singleton] at hy
        rw [hy]
        exact h8 _ (List.getElem_mem hk)
  · rintro M' ⟨ys, left, h1, h2, h3, h4, h5, h6, h7, h8⟩
    rw [e3] at h3 h5
    refine ⟨D, _, rfl, h1, ?_⟩
    refine ⟨_, mdel (mdel M' D) l, VwM.val (VwM.less fun b d hb => ?_), ys, h7, h5, rfl, (h3.mdel hDp.1 hDp.2).mdel hlp.1 hlp.2, fun b g1 g2 => ?_⟩
    · by_cases g : b = l
      · subst g
        simp [mdel] at hb
      · rw [mdel_ne g] at hb
        exact hb
    · by_cases g : b = l
      · subst g
        simp [mdel, hl0]
      · rw [mdel_ne g]
        by_cases g' : b = D
        · subst g'
          simp [mdel, hDM]
        · rw [mdel_ne g']
          exact h4 b g1 g2 g g'
end
end K85
set_option maxRecDepth 100000
set_option maxHeartbeats 4000000
/-! the law's draws: names -/
namespace K85
open PySem L2
open C8 (Cal Met Mak pe_c pe_mk pe_mt pe_mt0 pe_gc)
local macro_rules | `(tactic| walk_at "sy1") => `(tactic| with_reducible first
  | refine r_seq ?_ | refine r_if ?_ | refine r_ret ?_ | refine r_retN ?_ | refine r_asg ?_ | refine r_drop ?_ | refine r_brk ?_ | refine r_cont ?_ | refine r_fld ?_ | refine r_dput ?_ | refine r_for ?_ | refine r_next ?_
  | refine g_name ?_ | refine g_tup ?_ | refine g_unl ?_ | refine g_cons ?_ | refine g_nil ?_
  | refine t_test ?_ | refine t_B ?_ | refine t_not ?_ | refine t_and ?_ | refine t_or ?_ | refine t_yes ?_
  | refine e_var rfl ?_ | refine e_int ?_ | refine e_str ?_ | refine e_bl ?_ | refine e_non ?_ | refine e_ref ?_ | refine e_op ?_ | refine e_un ?_ | refine e_andV ?_ | refine e_orV ?_ | refine e_notV ?_ | refine e_if ?_ | refine e_isN ?_ | refine e_notN ?_
  | refine e_tup ?_ | refine e_fld ?_ | refine e_call0 ?_ | refine e_meth0 ?_ | refine e_cb ?_ | refine e_bm ?_ | refine e_dget ?_ | refine e_dget1 ?_ | refine e_din ?_ | refine e_dnotin ?_ | refine e_chain ?_ | refine e_fcall ?_ | refine e_sm ?_
  | refine a_nil ?_ | refine a_cons ?_ | refine i_list ?_ | refine i_tup ?_ | refine i_seq ?_ | refine i_rng1 ?_ | refine i_str ?_
  | refine s_none ?_ | refine s_some ?_ | refine e_slL ?_ | refine e_slT ?_
  | refine o_II ?_ | refine o_IB ?_)
local macro_rules | `(tactic| walk_at "sy") => `(tactic| repeat (first | walk_at "sy1" | refine ⟨_, rfl, ?_⟩ | refine ⟨(rfl : List.lookup _ _ = none), ?_⟩))
local macro_rules | `(tactic| walk_at "eqF") => `(tactic| (refine o_eq rfl rfl rfl ?_; walk_at "sy"; refine iF (by decide +kernel) ?_; walk_at "sy"))
local macro_rules | `(tactic| walk_at "eqT") => `(tactic| (refine o_eq rfl rfl rfl ?_; walk_at "sy"; refine iT (by decide +kernel) ?_; walk_at "sy"))
local macro_rules | `(tactic| walk_at "pureEnd") => `(tactic| (rintro d M' ⟨rfl, rfl⟩))
abbrev s__law_name : Stmt := top 53
theorem sc__law_name : FnScope ["_law_stream", "_law_taken", "_law_size", "_law_name_here", "_law_k", "_law_one", "_law_letter"] ["_law_stream", "_law_taken"] (defScope s__law_name) := ⟨rfl, rfl, rfl, by decide +kernel, rfl, by decide +kernel, by decide +kernel⟩
abbrev s__law_names : Stmt := top 54
theorem sc__law_names : FnScope ["_law_stream", "_law_many", "_law_taken", "_law_found", "_law_k"] ["_law_stream", "_law_many", "_law_taken"] (defScope s__law_names) := ⟨rfl, rfl, rfl, by decide +kernel, rfl, by decide +kernel, by decide +kernel⟩
section
variable {L : Lk} {Γ : Gm} {M : Mm} {P : Dt → Mm → Prop} {K : PySem.W.Frag}
theorem e_join {a : Str} {te : TE} (h : Ev L Γ M te fun y M2 => ∃ ys : List Str, vw M2 y = .lst (dStrs ys) ∧ (ys.map (·.length)).sum + ys.length * a.length ≤ 16777216 ∧ P (.s (Txt.join a ys)) M2) :
    Ev L Γ M (tM1 (fun x xs H Q => ∃ a p, ∃ ys : List Str, x = .str a ∧ xs = [.ref p] ∧ (SqL K H p (ys.map V.str) ∨ SqT K H p (ys.map V.str)) ∧ (ys.map (·.length)).sum + ys.length * a.length ≤ 16777216 ∧ Q (.str (Txt.join a ys)) H) (tC (.str a)) te) P := fun σ H0 H Q s g q =>
  ⟨⟨a, rfl⟩, h σ H0 H _ s g fun v y M1 H1 H1' e1 s1 r1 p => by
    obtain ⟨ys, hy, hz, p⟩ := p
    obtain ⟨b, vs, rfl, hb, hr⟩ := s1.lst r1 hy
    rw [repL_strs hr] at hb
    exact ⟨a, b, ys, rfl, rfl, .inl (SqL.of hb), hz, q _ (.s (Txt.join a ys)) M1 H1 H1' e1 s1 (by unfold Rep; rfl) p⟩⟩
theorem o_ixS {a : Str} {n c : Nat} (hz : a.length ≤ 100000) (hc : a.cps.toList[n]? = some c) (k : P (.s ⟨#[c]⟩) M) : Op L M rIxS (.s a) (.i ((n : Nat) : Int)) P := fun H0 H v w Q s rx ry q => by
  unfold Rep at rx ry
  subst rx ry
  exact ⟨a, (n : Int), c, rfl, rfl, Nat.le_trans hz (by decide), atI_nat hc, q _ (.s ⟨#[c]⟩) M H0 H (Same.refl _) s (by unfold Rep; rfl) k⟩
end
theorem EvT.cut {L : Lk} {Γ : Gm} {M : Mm} {t : TT} {PB PB' : Bool → Mm → Prop} (h : EvT L Γ M t PB) (k : ∀ b M', PB b M' → PB' b M') : EvT L Γ M t PB' := fun σ H0 H Q s g q => h σ H0 H Q s g fun b M' H0' H' e s' p => q b M' H0' H' e s' (k b M' p)
theorem joinL_nil : ∀ ls : List (List Nat), TL.joinL [] ls = ls.flatten
  | [] => rfl
  | [p] => by simp [TL.joinL]
  | p :: q :: r => by
    show p ++ ([] ++ TL.joinL [] (q :: r)) = _
    rw [joinL_nil (q :: r)]
    simp
def sgs (cs : List Nat) : List Str := cs.map fun c => ⟨#[c]⟩
theorem join_cps (cs : List Nat) : (Txt.join ("" : Str) (sgs cs)).cps.toList = cs := by
  rw [TL.join_eq]
  have h := TL.tl_join ("" : Str) (sgs cs)
  have e : TL.tl ("" : Str) = [] := by decide +kernel
  rw [e, joinL_nil] at h
  have e2 : ((sgs cs).map TL.tl).flatten = cs := by
    unfold sgs
    rw [List.map_map]
    show (cs.map fun c => [c]).flatten = cs
    clear h
    induction cs with
    | nil => rfl
    | cons c cs ih => simp [ih]
  rw [e2] at h
  exact h
def lets : Str := "abcdefghijklmnopqrstuvwxyz"
def qnames : List Str := (("abcdefghijklmnopqrst" : Str).cps.toList).map fun c => "q" ++ (⟨#[c]⟩ : Str)
theorem q_ok : ∀ q ∈ qnames, NameOk q := by unfold NameOk qnames; decide +kernel
theorem q_nd : qnames.Nodup := by decide +kernel
theorem nodup_le' {α : Type} [DecidableEq α] {l m : List α} (hl : l.Nodup) (h : ∀ s ∈ l, s ∈ m) : l.length ≤ m.length := by
  induction l generalizing m with
  | nil => exact Nat.zero_le _
  | cons x l ih =>
    rw [List.nodup_cons] at hl
    have hx : x ∈ m := h x List.mem_cons_self
    have := ih (m := m.erase x) hl.2 fun s hs => by
      refine (List.mem_erase_of_ne ?_).mpr (h s (List.mem_cons_of_mem _ hs))
      rintro rfl
      exact hl.1 hs
    rw [List.length_erase_of_mem hx] at this
    have hp := List.length_pos_of_mem hx
    rw [List.length_cons]
    omega
abbrev S_name : FS := ⟨Addr × Addr × Nat × List Str, fun q ds L M => let (p, sc, n, xs) := q
    ds = [.adr p, .lst (dStrs xs)] ∧ Stm M p sc n ∧ n < 90000 ∧ xs.length ≤ 12,
  fun q M d M' => let (p, sc, n, xs) := q
    ∃ x k, d = .s x ∧ NameOk x ∧ x ∉ xs ∧ k ≤ 9 ∧ Stm M' p sc (n + k) ∧ Frm p sc M M'⟩
abbrev S_names : FS := ⟨Addr × Addr × Nat × Nat, fun q ds L M => let (p, sc, n, m) := q
    ds = [.adr p, .i ((m : Nat) : Int), .lst []] ∧ Stm M p sc n ∧ n < 80000 ∧ m ≤ 12,
  fun q M d M' => let (p, sc, n, m) := q
    ∃ xs : List Str, ∃ k, d = .lst (dStrs xs) ∧ xs.length = m ∧ xs.Nodup ∧ (∀ x ∈ xs, NameOk x) ∧ k ≤ 9 * m ∧ Stm M' p sc (n + k) ∧ Frm p sc M M'⟩
section
variable {P : Program} {w : World} {K : PySem.W.Frag} {mg : Str → Option Value} {base : Heap}
theorem ok_name (T : Tx K mg) (D : Df K mg "_law_name" s__law_name) (cD : Cal P w K mg base 1 "_law_draw" S_draw.sp []) : Cal P w K mg base 2 "_law_name" S_name.sp [] := by
  refine cal_sym D sc__law_name (fun _ _ _ _ _ _ us hl => match us, hl with | [_, _], _ => rfl) (fun a ds L M h => by obtain ⟨rfl, _⟩ := h; rfl) (fun f cdv A outer s H E hr => ⟨_, pss_cons (ps_set (i := 2) sc__law_name.nd rfl (Or.inl rfl) (pe_ix ix_list (pe_lst (pa_cons pe_int (pa_cons pe_int (pa_cons pe_int (pa_cons pe_int (pa_cons pe_int (pa_cons pe_int pa_nil))))))) (pe_c cD hr (by omega) rfl (pa_cons (pv 0) (pa_cons pe_int pa_nil))) (fun _ _ => rfl))) (pss_cons (ps_set (i := 3) sc__law_name.nd rfl (Or.inl rfl) (pe_join pe_str (pe_lc (own := [("_law_k", 4)]) rfl sc__law_name.nd (pi_range1 (by rfl) T.f_range (pa_cons (pv 2) pa_nil)) (blkOk_by (own := [("_law_k", 4)]) (N := ["_law_stream", "_law_taken", "_law_size", "_law_name_here", "_law_k", "_law_one", "_law_letter"]) (sc := defScope s__law_name) (by decide +kernel)) (fun _ _ _ _ _ => (pg_name (i := 4) sc__law_name.nd rfl (Or.inl rfl))) (fun _ _ _ _ _ => pts_nil) (fun _ _ _ _ _ => (pe_ix ix_str pe_str (pe_c cD hr (by omega) rfl (pa_cons (pv 0) (pa_cons pe_int pa_nil))) (fun _ _ => rfl)))))) (pss_cons (ps_if (PW.pt (pw_or (pt_cmpR op_in_seq (pv 3) (pv 1) rfl) (pw_or1 (pt_cmpR op_in_seq (pv 3) (pe_lst (pa_cons pe_str (pa_cons pe_str (pa_cons pe_str (pa_cons pe_str (pa_cons pe_str pa_nil)))))) rfl)))) (pss_one (ps_ret (pe_ix ix_list (pe_lc (own := [("_law_one", 5)]) rfl sc__law_name.nd (pi_list (pe_lc (own := [("_law_letter", 6)]) rfl sc__law_name.nd (pi_str pe_str) (blkOk_by (own := [("_law_letter", 6)]) (N := ["_law_stream", "_law_taken", "_law_size", "_law_name_here", "_law_k", "_law_one", "_law_letter"]) (sc := defScope s__law_name) (by decide +kernel)) (fun _ _ _ _ _ => (pg_name (i := 6) sc__law_name.nd rfl (Or.inl rfl))) (fun _ _ _ _ _ => pts_nil) (fun _ _ _ _ _ => (pe_op op_add_str pe_str (pv 6))))) (blkOk_by (own := [("_law_one", 5)]) (N := ["_law_stream", "_law_taken", "_law_size", "_law_name_here", "_law_k", "_law_one", "_law_letter"]) (sc := defScope s__law_name) (by decide +kernel)) (fun _ _ _ _ _ => (pg_name (i := 5) sc__law_name.nd rfl (Or.inl rfl))) (fun _ _ _ _ _ => (pts_one (pt_cmpR (show OpR _ _ (rIn K true) from op_notIn_seq) (pv 5) (pv 1) rfl))) (fun _ _ _ _ _ => (pv 5))) pe_int (fun _ _ => rfl)))) pss_nil) (pss_one (ps_ret (pv 3))))), fun (p, sc, n, xs) ds L M h => ?_⟩)
  obtain ⟨rfl, hS, hn, hl⟩ := h
  walk_at "sy"
  refine e_lst ?_
  walk_at "sy"
  refine ⟨by simp, ?_⟩
  walk_at "sy"
  refine ⟨(p, sc, n, 6), ⟨rfl, hS, by show n < 100000; omega, by show 0 < 6; omega, by show 6 ≤ 1000; omega⟩, ?_⟩
  rintro d M1 ⟨k0, hk0, rfl, hS1, hF1⟩
  have hk0 : k0 < 6 := hk0
  obtain ⟨z, hz, hz1, hz8⟩ : ∃ z : Nat, ([.i 1, .i 1, .i 2, .i 3, .i 5, .i 8] : List Dt)[k0]? = some (.i (z : Int)) ∧ 1 ≤ z ∧ z ≤ 8 := by
    match k0, hk0 with
    | 0, _ => exact ⟨1, rfl, by omega, by omega⟩
    | 1, _ => exact ⟨1, rfl, by omega, by omega⟩
    | 2, _ => exact ⟨2, rfl, by omega, by omega⟩
    | 3, _ => exact ⟨3, rfl, by omega, by omega⟩
    | 4, _ => exact ⟨5, rfl, by omega, by omega⟩
    | 5, _ => exact ⟨8, rfl, by omega, by omega⟩
  refine o_ixL (n := k0) rfl hz ?_
  walk_at "sy"
  refine e_join ?_
  refine e_frz (e_lc (wo_name (by decide)) ?_)
  walk_at "sy"
  refine ⟨by omega, by omega, fun D hD => ?_⟩
  have hDp := hS1.ne hD
  have e2 : ((z : Int)).toNat = z := by omega
  have e3 : (rngD z).length = z := by unfold rngD; simp
  rw [e2]
  refine ⟨fun i M' => ∃ cs : List Nat, M' D = some (.lst (dStrs (sgs cs))) ∧ cs.length = i ∧ (∀ c ∈ cs, c ∈ lets.cps.toList) ∧ Stm M' p sc (n + 1 + i) ∧ ∀ b, b ≠ p → b ≠ sc → b ≠ D → M' b = M b, ⟨[], mset_same, rfl, (fun c h => nomatch h), hS1.new hD, fun b h1 h2 h3 => by rw [mset_ne h3]; exact hF1 b h1 h2⟩, ?_, ?_⟩
  · rintro i d M' hd ⟨cs, h1, h2, h3, h4, h5⟩
    have hi : i < z := by
      have := (List.getElem?_eq_some_iff.mp hd).1
      omega
    walk_at "sy"
    refine iT rfl ?_
    walk_at "sy"
    refine ⟨(p, sc, n + 1 + i, 26), ⟨rfl, h4, by show n + 1 + i < 100000; omega, by show 0 < 26; omega, by show 26 ≤ 1000; omega⟩, ?_⟩
    rintro d2 M2 ⟨k, hk, rfl, hS2, hF⟩
    have hk : k < 26 := hk
    have hlen : lets.cps.toList.length = 26 := by decide +kernel
    have hc : lets.cps.toList[k]? = some (lets.cps.toList[k]'(by omega)) := List.getElem?_eq_getElem (by omega)
    have hcm := List.getElem_mem (l := lets.cps.toList) (n := k) (by omega)
    generalize lets.cps.toList[k]'(by omega) = c at hc hcm
    refine o_ixS (c := c) (by decide +kernel) hc ?_
    have h1' : M2 D = some (.lst (dStrs (sgs cs))) := by rw [hF D hDp.1 hDp.2]; exact h1
    refine ⟨_, h1', by simp [dStrs, sgs]; omega, cs ++ [c], by rw [mset_same]; simp [dStrs, sgs], by simp [h2], fun c' hc' => ?_, hS2.mset hDp.1 hDp.2, fun b g1 g2 g3 => ?_⟩
    · rcases List.mem_append.mp hc' with h | h
      · exact h3 c' h
      · rw [List.mem_singleton] at h
        rw [h]
        exact hcm
    · rw [mset_ne g3, hF b g1 g2]
      exact h5 b g1 g2 g3
  rintro M' ⟨cs, h1, h2, h3, h4, h5⟩
  rw [e3] at h2 h4
  refine ⟨D, _, rfl, h1, sgs cs, rfl, ?_, ?_⟩
  · have e5 : ∀ cs : List Nat, ((sgs cs).map (·.length)).sum = cs.length := fun cs => by
      induction cs with
      | nil => rfl
      | cons c cs ih =>
        show 1 + ((sgs cs).map (·.length)).sum = cs.length + 1
        omega
    rw [e5]
    have e6 : ("" : Str).length = 0 := by decide +kernel
    rw [e6]
    omega
  have hF2 : Frm p sc M (mdel M' D) := fun b g1 g2 => by
    by_cases g : b = D
    · subst g
      rw [← hF1 b g1 g2, hD]
      simp [mdel]
    · rw [mdel_ne g]
      exact h5 b g1 g2 g
  have hS2 := h4.mdel hDp.1 hDp.2
  have hcp := join_cps cs
  generalize Txt.join ("" : Str) (sgs cs) = nm at hcp
  generalize mdel M' D = M2 at hF2 hS2
  refine g_name ?_
  refine r_seq ?_
  refine r_if ?_
  refine EvT.cut (PB := fun b M' => b = (decide (nm ∈ xs) || decide (nm ∈ (["and", "or", "not", "always", "never"] : List Str))) ∧ M2 = M') ?_ ?_
  · walk_at "sy"
    refine o_inS (xs := xs) (.inl rfl) ⟨_, rfl, iB (fun e1 => ?_) (fun e1 => ?_)⟩
    · simp only [Bool.false_eq_true, if_false] at e1
      exact ⟨by rw [e1]; rfl, rfl⟩
    · simp only [Bool.false_eq_true, if_false] at e1
      walk_at "sy"
      refine e_lst ?_
      walk_at "sy"
      refine ⟨by simp, ?_⟩
      refine o_inS (xs := ["and", "or", "not", "always", "never"]) (.inl rfl) ⟨_, rfl, ?_, rfl⟩
      rw [e1]
      rfl
  rintro b M3 ⟨rfl, rfl⟩
  refine iB (fun e1 => ?_) (fun e1 => ?_)
  · walk_at "sy"
    refine e_lcM (α := Str) (wo_name (by decide)) ?_
    walk_at "sy"
    refine e_lcM (α := Nat) (wo_name (by decide)) ?_
    walk_at "sy"
    refine ⟨("abcdefghijklmnopqrst" : Str).cps.toList, fun c => .s ⟨#[c]⟩, fun _ => true, fun c => .s ("q" ++ (⟨#[c]⟩ : Str)), rfl, by decide +kernel, fun c hc => ?_, ?_⟩
    · intro M' l
      walk_at "sy"
      refine ⟨rfl, t_yes ?_⟩
      refine ⟨rfl, rfl, fun _ => ?_⟩
      walk_at "sy"
      refine o_addS ?_ ⟨rfl, rfl⟩
      show (1 : Nat) + 1 ≤ 100000
      omega
    rw [filter_tt]
    refine ⟨_, rfl, qnames, Dt.s, fun q => !decide (q ∈ xs), Dt.s, ?_, by decide +kernel, fun q hq => ?_, ?_⟩
    · unfold qnames
      rw [List.map_map]
      rfl
    · intro M' l
      walk_at "sy"
      refine ⟨rfl, ?_⟩
      walk_at "sy"
      refine o_inS (xs := xs) (.inl rfl) ⟨_, rfl, rfl, rfl, fun _ => ?_⟩
      walk_at "sy"
      exact ⟨rfl, rfl⟩
    have hex : qnames.filter (fun q => !decide (q ∈ xs)) ≠ [] := fun z => by
      rw [List.filter_eq_nil_iff] at z
      have := nodup_le' q_nd (m := xs) fun q hq => by simpa using z q hq
      have e : qnames.length = 20 := by decide +kernel
      omega
    cases hq : qnames.filter (fun q => !decide (q ∈ xs)) with
    | nil => exact absurd hq hex
    | cons q r =>
      have hqm : q ∈ qnames.filter (fun q => !decide (q ∈ xs)) := by rw [hq]; exact List.mem_cons_self
      obtain ⟨g1, g2⟩ := List.mem_filter.mp hqm
      walk_at "sy"
      refine o_ixL (n := 0) rfl rfl ?_
      exact ⟨q, 1 + z, rfl, q_ok q g1, by simpa using g2, by omega, by rw [← Nat.add_assoc]; exact hS2, hF2⟩
  · walk_at "sy"
    rw [Bool.or_eq_false_iff, decide_eq_false_iff_not, decide_eq_false_iff_not] at e1
    have hlen : nm.length = z := by
      rw [← h2, ← hcp]
      rfl
    exact ⟨nm, 1 + z, rfl, ⟨by omega, by omega, e1.2, fun c hc => h3 c (by rw [← hcp]; exact hc)⟩, e1.1, by omega, by rw [← Nat.add_assoc]; exact hS2, hF2⟩
theorem ok_names (T : Tx K mg) (D : Df K mg "_law_names" s__law_names) (cN : Cal P w K mg base 2 "_law_name" S_name.sp []) : Cal P w K mg base 3 "_law_names" S_names.sp [] := by
  refine cal_sym D sc__law_names (fun _ _ _ _ _ _ us hl => match us, hl with | [_, _, _], _ => rfl) (fun a ds L M h => by obtain ⟨rfl, _⟩ := h; rfl) (fun f cdv A outer s H E hr => ⟨_, pss_cons (ps_set (i := 3) sc__law_names.nd rfl (Or.inl rfl) (pe_lst pa_nil)) (pss_cons (ps_for PassesOwn.never rfl (pi_range1 (by rfl) T.f_range (pa_cons (pv 1) pa_nil)) (pg_name (i := 4) sc__law_names.nd rfl (Or.inl rfl)) (pss_one (ps_expr (pe_bm PySem.F.plainAttrs_list PySem.F.slot_list_append PySem.F.type_list_append mt_append (pv 3) (pa_cons (pe_c cN hr (by omega) rfl (pa_cons (pv 0) (pa_cons (pe_op op_cat (pv 2) (pv 3)) pa_nil))) pa_nil))))) (pss_one (ps_ret (pv 3)))), fun (p, sc, n, m) ds L M h => ?_⟩)
  obtain ⟨rfl, hS, hn, hm⟩ := h
  walk_at "sy"
  refine e_lstO ?_
  walk_at "sy"
  refine ⟨by simp, fun l hl => ?_⟩
  have hlp := hS.ne hl
  walk_at "sy"
  refine ⟨by omega, by omega, ?_⟩
  have e2 : ((m : Int)).toNat = m := by omega
  have e3 : (rngD m).length = m := by unfold rngD; simp
  rw [e2]
  refine ⟨fun i Γ' M' => ∃ u4 xs k, Γ' = [some (.adr p), some (.i ((m : Nat) : Int)), some (.lst []), some (.adr l), u4] ∧ M' l = some (.lst (dStrs xs)) ∧ xs.length = i ∧ xs.Nodup ∧ (∀ x ∈ xs, NameOk x) ∧ k ≤ 9 * i ∧ Stm M' p sc (n + k) ∧ ∀ b, b ≠ p → b ≠ sc → b ≠ l → M' b = M b, ⟨_, [], 0, rfl, mset_same, rfl, List.nodup_nil, (fun x h => nomatch h), by omega, hS.new hl, fun b h1 h2 h3 => mset_ne h3⟩, ?_, ?_⟩
  · rintro i d Γ' M' hd ⟨u4, xs, k, rfl, h1, h2, h3, h4, h5, h6, h7⟩
    have hi : i < m := by
      have := (List.getElem?_eq_some_iff.mp hd).1
      omega
    walk_at "sy"
    refine ⟨_, vw_adr h1, ?_⟩
    walk_at "sy"
    have e4 : (dStrs xs).length = xs.length := by simp [dStrs]
    refine o_cat (as := []) rfl (vw_adr h1) (by rw [e4]; simp; omega) ?_
    rw [List.nil_append]
    walk_at "sy"
    refine ⟨(p, sc, n + k, xs), ⟨rfl, h6, by omega, by omega⟩, ?_⟩
    rintro d2 M2 ⟨x, j, rfl, g1, g2, g3, g4, g5⟩
    walk_at "sy"
    have h1' : M2 l = some (.lst (dStrs xs)) := by rw [g5 l hlp.1 hlp.2]; exact h1
    refine m_app h1' (by rw [e4]; omega) ?_
    refine ⟨_, xs ++ [x], k + j, rfl, by rw [mset_same]; simp [dStrs], by simp [h2], ?_, fun y hy => ?_, by omega, ?_, fun b q1 q2 q3 => ?_⟩
    · refine List.nodup_append.mpr ⟨h3, by simp, fun a ha b hb => ?_⟩
      simp at hb
      subst hb
      rintro rfl
      exact g2 ha
    · rcases List.mem_append.mp hy with hy | hy
      · exact h4 y hy
      · rw [List.mem_singleton] at hy
        rw [hy]
        exact g1
    · rw [← Nat.add_assoc]
      exact g4.mset hlp.1 hlp.2
    · rw [mset_ne q3, g5 b q1 q2]
      exact h7 b q1 q2 q3
  · rintro Γ' M' ⟨u4, xs, k, rfl, h1, h2, h3, h4, h5, h6, h7⟩
    rw [e3] at h2 h5
    refine r_ret (e_frz (e_var rfl ⟨l, _, rfl, h1, xs, k, rfl, h2, h3, h4, h5, h6.mdel hlp.1 hlp.2, fun b g1 g2 => ?_⟩))
    by_cases g : b = l
    · subst g
      rw [hl]
      simp [mdel]
    · rw [mdel_ne g]
      exact h7 b g1 g2 g
end
end K85
set_option maxRecDepth 100000
set_option maxHeartbeats 4000000
/-! the law's draws: conditions -/
namespace K85
open PySem L2
open C8 (Cal Met Mak pe_c pe_mk pe_mt pe_mt0 pe_gc)
local macro_rules | `(tactic| walk_at "sy1") => `(tactic| with_reducible first
  | refine r_seq ?_ | refine r_if ?_ | refine r_ret ?_ | refine r_retN ?_ | refine r_asg ?_ | refine r_drop ?_ | refine r_brk ?_ | refine r_cont ?_ | refine r_fld ?_ | refine r_dput ?_ | refine r_for ?_ | refine r_next ?_
  | refine g_name ?_ | refine g_tup ?_ | refine g_unl ?_ | refine g_cons ?_ | refine g_nil ?_
  | refine t_test ?_ | refine t_B ?_ | refine t_not ?_ | refine t_and ?_ | refine t_or ?_ | refine t_yes ?_
  | refine e_var rfl ?_ | refine e_int ?_ | refine e_str ?_ | refine e_bl ?_ | refine e_non ?_ | refine e_ref ?_ | refine e_op ?_ | refine e_un ?_ | refine e_andV ?_ | refine e_orV ?_ | refine e_notV ?_ | refine e_if ?_ | refine e_isN ?_ | refine e_notN ?_
  | refine e_tup ?_ | refine e_fld ?_ | refine e_call0 ?_ | refine e_meth0 ?_ | refine e_cb ?_ | refine e_bm ?_ | refine e_dget ?_ | refine e_dget1 ?_ | refine e_din ?_ | refine e_dnotin ?_ | refine e_chain ?_ | refine e_fcall ?_ | refine e_sm ?_
  | refine a_nil ?_ | refine a_cons ?_ | refine i_list ?_ | refine i_tup ?_ | refine i_seq ?_ | refine i_rng1 ?_ | refine i_str ?_
  | refine s_none ?_ | refine s_some ?_ | refine e_slL ?_ | refine e_slT ?_
  | refine o_II ?_ | refine o_IB ?_)
local macro_rules | `(tactic| walk_at "sy") => `(tactic| repeat (first | walk_at "sy1" | refine ⟨_, rfl, ?_⟩ | refine ⟨(rfl : List.lookup _ _ = none), ?_⟩))
local macro_rules | `(tactic| walk_at "eqF") => `(tactic| (refine o_eq rfl rfl rfl ?_; walk_at "sy"; refine iF (by decide +kernel) ?_; walk_at "sy"))
local macro_rules | `(tactic| walk_at "eqT") => `(tactic| (refine o_eq rfl rfl rfl ?_; walk_at "sy"; refine iT (by decide +kernel) ?_; walk_at "sy"))
local macro_rules | `(tactic| walk_at "pureEnd") => `(tactic| (rintro d M' ⟨rfl, rfl⟩))
abbrev s__law_condition : Stmt := top 55
theorem sc__law_condition : FnScope ["_law_stream", "_law_names_here", "_law_deep", "_law_way", "_law_one", "_law_name_here"] ["_law_stream", "_law_names_here", "_law_deep"] (defScope s__law_condition) := ⟨rfl, rfl, rfl, by decide +kernel, rfl, by decide +kernel, by decide +kernel⟩
abbrev S_cond (d : Nat) : FS := ⟨Addr × Addr × Nat × List Str, fun q ds L M => let (p, sc, n, xs) := q
    ds = [.adr p, .lst (dStrs xs), .i ((d : Nat) : Int)] ∧ Stm M p sc n ∧ n + 4 * 2 ^ d ≤ 80000 ∧ xs.length ≤ 10 ∧ (∀ x ∈ xs, NameOk x) ∧ d ≤ 2,
  fun q M r M' => let (p, sc, n, xs) := q
    ∃ (t : Tr) (k : Nat), r = t.d ∧ t.depth ≤ d + 2 ∧ t.names.length ≤ 2 ^ d ∧ (∀ x ∈ t.names, x ∈ xs) ∧ k + 1 ≤ 4 * 2 ^ d ∧ Stm M' p sc (n + k) ∧ Frm p sc M M'⟩
def S_void : FS := ⟨Unit, fun _ _ _ _ => False, fun _ _ _ _ => False⟩
def S_condI : Nat → FS
  | 0 => S_void
  | d + 1 => S_cond d
section
variable {P : Program} {w : World} {K : PySem.W.Frag} {mg : Str → Option Value} {base : Heap}
theorem cal_void {x : Str} {st : Stmt} {k : Nat} {ps : List Str} (D : Df K mg x st) (hb : Bd1 ps x x st) : Cal P w K mg base k x S_void.sp [] := by
  obtain ⟨f, fd, F, hm⟩ := D.ex
  exact ⟨f, fd, ps, [], ⟨fun vs H Q E h => (by obtain ⟨_, _, _, _, _, _, _, h, _⟩ := h; exact h.elim), fun A outer s H args us vs Q E hr he hbt hv h => (by obtain ⟨_, _, _, _, _, _, _, h, _⟩ := h; exact h.elim)⟩, hm, F.kp, F.bindsN hb, .nil⟩
theorem ok_cond1 (T : Tx K mg) (D : Df K mg "_law_condition" s__law_condition) (cD : Cal P w K mg base 1 "_law_draw" S_draw.sp []) (cP : Cal P w K mg base 2 "_law_pick" S_pick.sp []) (d : Nat) (ih : Cal P w K mg base (d + 2) "_law_condition" (S_condI d).sp []) : Cal P w K mg base (d + 3) "_law_condition" (S_cond d).sp [] := by
  refine cal_sym D sc__law_condition (fun _ _ _ _ _ _ us hl => match us, hl with | [_, _, _], _ => rfl) (fun a ds L M h => by obtain ⟨rfl, _⟩ := h; rfl) (fun f cdv A outer s H E hr => ⟨_, pss_cons (ps_set (i := 3) sc__law_condition.nd rfl (Or.inl rfl) (pe_c cD hr (by omega) rfl (pa_cons (pv 0) (pa_cons pe_int pa_nil)))) (pss_cons (ps_if (PW.pt (pw_or (pt_cmpR (op_eqD (hu64 hr)) (pv 1) (pe_lst pa_nil) (nomark _)) (pw_or1 (pt_cmpR op_eq (pv 3) pe_int (nomark _))))) (pss_one (ps_ret (pe_ix ix_list (pe_lst (pa_cons (pe_tup (pa_cons pe_str pa_nil)) (pa_cons (pe_tup (pa_cons pe_str pa_nil)) pa_nil))) (pe_c cD hr (by omega) rfl (pa_cons (pv 0) (pa_cons pe_int pa_nil))) (fun _ _ => rfl)))) pss_nil) (pss_cons (ps_if (PW.pt (pw_or (pt_cmpR op_eq (pv 2) pe_int (nomark _)) (pw_or1 (pt_cmpR op_lt (pv 3) pe_int (nomark _))))) (pss_cons (ps_set (i := 5) sc__law_condition.nd rfl (Or.inl rfl) (pe_c cP hr (by omega) rfl (pa_cons (pv 0) (pa_cons (pv 1) pa_nil)))) (pss_one (ps_ret (pe_ifExp (pt_cmpR op_eq (pe_c cD hr (by omega) rfl (pa_cons (pv 0) (pa_cons pe_int pa_nil))) pe_int (nomark _)) (pe_tup (pa_cons pe_str (pa_cons (pv 5) pa_nil))) (pe_tup (pa_cons pe_str (pa_cons (pe_tup (pa_cons pe_str (pa_cons (pv 5) pa_nil))) pa_nil))))))) pss_nil) (pss_cons (ps_if (pt_cmpR op_eq (pv 3) pe_int (nomark _)) (pss_one (ps_ret (pe_tup (pa_cons pe_str (pa_cons (pe_c ih hr (by omega) rfl (pa_cons (pv 0) (pa_cons (pv 1) (pa_cons (pe_op op_sub (pv 2) pe_int) pa_nil)))) pa_nil))))) pss_nil) (pss_cons (ps_set (i := 4) sc__law_condition.nd rfl (Or.inl rfl) (pe_c ih hr (by omega) rfl (pa_cons (pv 0) (pa_cons (pv 1) (pa_cons (pe_op op_sub (pv 2) pe_int) pa_nil))))) (pss_one (ps_ret (pe_tup (pa_cons (pe_ix ix_list (pe_lst (pa_cons pe_str (pa_cons pe_str pa_nil))) (pe_op op_mod (pv 3) pe_int) (fun _ _ => rfl)) (pa_cons (pv 4) (pa_cons (pe_c ih hr (by omega) rfl (pa_cons (pv 0) (pa_cons (pv 1) (pa_cons (pe_op op_sub (pv 2) pe_int) pa_nil)))) pa_nil)))))))))), fun (p, sc, n, xs) ds L M h => ?_⟩)
  obtain ⟨rfl, hS, hn, hl, hx, hd2⟩ := h
  have hp2 : 1 ≤ 2 ^ d := Nat.one_le_two_pow
  walk_at "sy"
  refine ⟨(p, sc, n, 9), ⟨rfl, hS, by show n < 100000; omega, by show 0 < 9; omega, by show 9 ≤ 1000; omega⟩, ?_⟩
  rintro d1 M1 ⟨wy, hwy, rfl, hS1, hF1⟩
  have hwy : wy < 9 := hwy
  refine g_name ?_
  refine r_seq ?_
  refine r_if ?_
  refine EvT.cut (PB := fun b M' => b = (decide (xs = []) || decide (wy = 0)) ∧ M1 = M') ?_ ?_
  · walk_at "sy"
    refine e_lst (a_nil ⟨by simp, ?_⟩)
    refine o_eqSs (xs := xs) (ys := []) rfl rfl (fun z hz => str_ok (hx z hz)) (fun z h => nomatch h) ⟨_, rfl, iB (fun e1 => ?_) (fun e1 => ?_)⟩
    · exact ⟨by rw [e1]; rfl, rfl⟩
    · walk_at "sy"
      refine o_eq rfl rfl rfl ⟨_, rfl, ?_, rfl⟩
      rw [e1, Bool.false_or]
      refine decide_eq_decide.mpr ⟨fun e => ?_, fun e => by rw [e]; rfl⟩
      have := V.int.inj e
      omega
  rintro b M' ⟨rfl, rfl⟩
  refine iB (fun e1 => ?_) (fun e1 => ?_)
  · walk_at "sy"
    refine e_lst ?_
    walk_at "sy"
    refine ⟨by simp, ?_⟩
    walk_at "sy"
    refine ⟨by simp, ?_⟩
    walk_at "sy"
    refine ⟨by simp, ?_⟩
    walk_at "sy"
    refine ⟨(p, sc, n + 1, 2), ⟨rfl, hS1, by show n + 1 < 100000; omega, by show 0 < 2; omega, by show 2 ≤ 1000; omega⟩, ?_⟩
    rintro d2 M2 ⟨k, hk, rfl, hS2, hF2⟩
    have hk : k < 2 := hk
    match k, hk with
    | 0, _ => exact o_ixL (n := 0) (d := Tr.alw.d) rfl rfl ⟨.alw, 2, rfl, by show 1 ≤ d + 2; omega, Nat.zero_le _, (fun x h => nomatch h), by omega, hS2, hF1.trans hF2⟩
    | 1, _ => exact o_ixL (n := 1) (d := Tr.nev.d) rfl rfl ⟨.nev, 2, rfl, by show 1 ≤ d + 2; omega, Nat.zero_le _, (fun x h => nomatch h), by omega, hS2, hF1.trans hF2⟩
  · rw [Bool.or_eq_false_iff, decide_eq_false_iff_not, decide_eq_false_iff_not] at e1
    refine r_next ?_
    refine r_seq ?_
    refine r_if ?_
    refine EvT.cut (PB := fun b M' => b = (decide (d = 0) || decide (wy < 4)) ∧ M1 = M') ?_ ?_
    · walk_at "sy"
      refine o_eq rfl rfl rfl ⟨_, rfl, iB (fun e2 => ?_) (fun e2 => ?_)⟩
      · have e3 : d = 0 := by
          have := V.int.inj (of_decide_eq_true e2)
          omega
        exact ⟨by rw [e3]; rfl, rfl⟩
      · have e3 : ¬ d = 0 := fun z => of_decide_eq_false e2 (by rw [z]; rfl)
        walk_at "sy"
        refine ⟨?_, rfl⟩
        rw [decide_eq_false e3, Bool.false_or]
        exact decide_eq_decide.mpr ⟨fun h => by omega, fun h => by omega⟩
    rintro b M' ⟨rfl, rfl⟩
    refine iB (fun e2 => ?_) (fun e2 => ?_)
    · walk_at "sy"
      refine ⟨(p, sc, n + 1, xs), ⟨rfl, hS1, by omega, e1.1, by omega⟩, ?_⟩
      rintro d2 M2 ⟨x, hxm, rfl, hS2, hF2⟩
      walk_at "sy"
      refine ⟨(p, sc, n + 1 + 1, 2), ⟨rfl, hS2, by show n + 1 + 1 < 100000; omega, by show 0 < 2; omega, by show 2 ≤ 1000; omega⟩, ?_⟩
      rintro d3 M3 ⟨k, hk, rfl, hS3, hF3⟩
      have hk : k < 2 := hk
      walk_at "sy"
      refine o_eq rfl rfl rfl ⟨_, rfl, iB (fun e3 => ?_) (fun e3 => ?_)⟩
      · walk_at "sy"
        refine ⟨by simp, Tr.is x, 3, rfl, by show 1 ≤ d + 2; omega, hp2, fun y hy => ?_, by omega, hS3, (hF1.trans hF2).trans hF3⟩
        have hy : y ∈ [x] := hy
        rw [List.mem_singleton] at hy
        rw [hy]
        exact hxm
      · walk_at "sy"
        refine ⟨by simp, ?_⟩
        walk_at "sy"
        refine ⟨by simp, Tr.nt (Tr.is x), 3, rfl, by show 1 + 1 ≤ d + 2; omega, hp2, fun y hy => ?_, by omega, hS3, (hF1.trans hF2).trans hF3⟩
        have hy : y ∈ [x] := hy
        rw [List.mem_singleton] at hy
        rw [hy]
        exact hxm
    · rw [Bool.or_eq_false_iff, decide_eq_false_iff_not, decide_eq_false_iff_not] at e2
      obtain ⟨m, rfl⟩ : ∃ m, d = m + 1 := ⟨d - 1, by omega⟩
      have hpm : 2 ^ (m + 1) = 2 * 2 ^ m := by rw [Nat.pow_succ]; omega
      have hd1 : (((m + 1 : Nat) : Int) - 1) = ((m : Nat) : Int) := by omega
      walk_at "sy"
      refine o_eq rfl rfl rfl ⟨_, rfl, iB (fun e3 => ?_) (fun e3 => ?_)⟩
      · walk_at "sy"
        rw [hd1]
        refine ⟨(p, sc, n + 1, xs), ⟨rfl, hS1, by omega, hl, hx, by omega⟩, ?_⟩
        rintro d2 M2 ⟨t, k, rfl, g1, g2, g3, g4, g5, g6⟩
        walk_at "sy"
        refine ⟨by simp, Tr.nt t, 1 + k, rfl, by show t.depth + 1 ≤ _; omega, by show t.names.length ≤ _; omega, g3, by omega, by rw [← Nat.add_assoc]; exact g5, hF1.trans g6⟩
      · walk_at "sy"
        rw [hd1]
        refine ⟨(p, sc, n + 1, xs), ⟨rfl, hS1, by omega, hl, hx, by omega⟩, ?_⟩
        rintro d2 M2 ⟨t, k, rfl, g1, g2, g3, g4, g5, g6⟩
        have hk16 : k ≤ 16 := by
          have : 2 ^ m ≤ 2 ^ 2 := Nat.pow_le_pow_right (by decide) (by omega)
          omega
        walk_at "sy"
        refine e_lst ?_
        walk_at "sy"
        refine ⟨by simp, ?_⟩
        walk_at "sy"
        refine o_I (by decide) ?_
        have hw2 : ((wy : Int)) % 2 = ((wy % 2 : Nat) : Int) := by omega
        have hfin : ∀ M2 (t1 t2 : Tr) (k1 k2 : Nat), t1.depth ≤ m + 2 → t2.depth ≤ m + 2 → t1.names.length ≤ 2 ^ m → t2.names.length ≤ 2 ^ m → (∀ x ∈ t1.names, x ∈ xs) → (∀ x ∈ t2.names, x ∈ xs) → k1 + 1 ≤ 4 * 2 ^ m → k2 + 1 ≤ 4 * 2 ^ m → Stm M2 p sc (n + 1 + k1 + k2) → Frm p sc M M2 →
            ∀ r, r = Tr.d (if wy % 2 = 0 then Tr.an t1 t2 else Tr.or t1 t2) → (S_cond (m + 1)).post (p, sc, n, xs) M r M2 := by
          intro M2 t1 t2 k1 k2 a1 a2 b1 b2 c1 c2 d1 d2 hs hf r hr
          refine ⟨_, 1 + k1 + k2, hr, ?_, ?_, ?_, by omega, by rw [← Nat.add_assoc, ← Nat.add_assoc]; exact hs, hf⟩
          · split
            · show max t1.depth t2.depth + 1 ≤ _; omega
            · show max t1.depth t2.depth + 1 ≤ _; omega
          · split
            · show (t1.names ++ t2.names).length ≤ _; rw [List.length_append]; omega
            · show (t1.names ++ t2.names).length ≤ _; rw [List.length_append]; omega
          · intro x hx
            have hx : x ∈ t1.names ++ t2.names := by
              split at hx
              · exact hx
              · exact hx
            rcases List.mem_append.mp hx with h | h
            · exact c1 x h
            · exact c2 x h
        rw [hw2]
        have hm2 : wy % 2 = 0 ∨ wy % 2 = 1 := by omega
        have hpre : (S_cond m).pre (p, sc, n + 1 + k, xs) [.adr p, .lst (dStrs xs), .i ((m : Nat) : Int)] L M2 := ⟨rfl, g5, by omega, hl, hx, by omega⟩
        rcases hm2 with e4 | e4
        · rw [e4]
          refine o_ixL (n := 0) (d := .s "and") rfl rfl ?_
          walk_at "sy"
          rw [hd1]
          refine ⟨(p, sc, n + 1 + k, xs), hpre, ?_⟩
          rintro d3 M3 ⟨t2, k2, rfl, f1, f2, f3, f4, f5, f6⟩
          walk_at "sy"
          refine ⟨by simp, hfin _ t t2 k k2 g1 f1 g2 f2 g3 f3 g4 f4 f5 ((hF1.trans g6).trans f6) _ ?_⟩
          rw [if_pos e4]
          rfl
        · rw [e4]
          refine o_ixL (n := 1) (d := .s "or") rfl rfl ?_
          walk_at "sy"
          rw [hd1]
          refine ⟨(p, sc, n + 1 + k, xs), hpre, ?_⟩
          rintro d3 M3 ⟨t2, k2, rfl, f1, f2, f3, f4, f5, f6⟩
          walk_at "sy"
          refine ⟨by simp, hfin _ t t2 k k2 g1 f1 g2 f2 g3 f3 g4 f4 f5 ((hF1.trans g6).trans f6) _ ?_⟩
          rw [if_neg (by omega)]
          rfl
theorem ok_cond (T : Tx K mg) (D : Df K mg "_law_condition" s__law_condition) (cD : Cal P w K mg base 1 "_law_draw" S_draw.sp []) (cP : Cal P w K mg base 2 "_law_pick" S_pick.sp []) : ∀ d, Cal P w K mg base (d + 3) "_law_condition" (S_cond d).sp []
  | 0 => ok_cond1 T D cD cP 0 (cal_void (ps := ["_law_stream", "_law_names_here", "_law_deep"]) D (fun _ _ _ _ _ _ us hl => match us, hl with | [_, _, _], _ => rfl))
  | d + 1 => ok_cond1 T D cD cP (d + 1) (ok_cond T D cD cP d)
end
end K85
set_option maxRecDepth 100000
set_option maxHeartbeats 4000000
/-! the law's conditions, built -/
namespace K85
open PySem L2
open C8 (Cal Met Mak pe_c pe_mk pe_mt pe_mt0 pe_gc)
local macro_rules | `(tactic| walk_at "sy1") => `(tactic| with_reducible first
  | refine r_seq ?_ | refine r_if ?_ | refine r_ret ?_ | refine r_retN ?_ | refine r_asg ?_ | refine r_drop ?_ | refine r_brk ?_ | refine r_cont ?_ | refine r_fld ?_ | refine r_dput ?_ | refine r_for ?_ | refine r_next ?_
  | refine g_name ?_ | refine g_tup ?_ | refine g_unl ?_ | refine g_cons ?_ | refine g_nil ?_
  | refine t_test ?_ | refine t_B ?_ | refine t_not ?_ | refine t_and ?_ | refine t_or ?_ | refine t_yes ?_
  | refine e_var rfl ?_ | refine e_int ?_ | refine e_str ?_ | refine e_bl ?_ | refine e_non ?_ | refine e_ref ?_ | refine e_op ?_ | refine e_un ?_ | refine e_andV ?_ | refine e_orV ?_ | refine e_notV ?_ | refine e_if ?_ | refine e_isN ?_ | refine e_notN ?_
  | refine e_tup ?_ | refine e_fld ?_ | refine e_call0 ?_ | refine e_meth0 ?_ | refine e_cb ?_ | refine e_bm ?_ | refine e_dget ?_ | refine e_dget1 ?_ | refine e_din ?_ | refine e_dnotin ?_ | refine e_chain ?_ | refine e_fcall ?_ | refine e_sm ?_
  | refine a_nil ?_ | refine a_cons ?_ | refine i_list ?_ | refine i_tup ?_ | refine i_seq ?_ | refine i_rng1 ?_ | refine i_str ?_
  | refine s_none ?_ | refine s_some ?_ | refine e_slL ?_ | refine e_slT ?_
  | refine o_II ?_ | refine o_IB ?_)
local macro_rules | `(tactic| walk_at "sy") => `(tactic| repeat (first | walk_at "sy1" | refine ⟨_, rfl, ?_⟩ | refine ⟨(rfl : List.lookup _ _ = none), ?_⟩))
local macro_rules | `(tactic| walk_at "eqF") => `(tactic| (refine o_eq rfl rfl rfl ?_; walk_at "sy"; refine iF (by decide +kernel) ?_; walk_at "sy"))
local macro_rules | `(tactic| walk_at "eqT") => `(tactic| (refine o_eq rfl rfl rfl ?_; walk_at "sy"; refine iT (by decide +kernel) ?_; walk_at "sy"))
local macro_rules | `(tactic| walk_at "pureEnd") => `(tactic| (rintro d M' ⟨rfl, rfl⟩))
abbrev s__law_built : Stmt := top 56
theorem sc__law_built : FnScope ["_law_tree"] ["_law_tree"] (defScope s__law_built) := ⟨rfl, rfl, rfl, by decide +kernel, rfl, by decide +kernel, by decide +kernel⟩
abbrev S_built (K : PySem.W.Frag) (d : Nat) : FS := pureS Tr (fun t => [t.d]) (fun t => t.depth ≤ d ∧ ∀ x ∈ t.names, NameOk x) (fun t => dCond K t)
section
variable {P : Program} {w : World} {K : PySem.W.Frag} {mg : Str → Option Value} {base : Heap}
theorem ok_built (T : Tx K mg) (D : Df K mg "_law_built" s__law_built) (mOf : Smt P w K mg base 3 (cl K "Condition") "of" (S_Cof K).sp) (mAl : Smt P w K mg base 3 (cl K "Condition") "always" (S_Calways K).sp) (mNe : Smt P w K mg base 3 (cl K "Condition") "never" (S_Cnever K).sp)
    (dI : Dun P w K mg base 3 (cl K "Condition") "__invert__" (S_Cinv K).sp) (dAn : Dun P w K mg base 3 (cl K "Condition") "__and__" (S_Cand K).sp) (dOr : Dun P w K mg base 3 (cl K "Condition") "__or__" (S_Cor K).sp) : ∀ d, Cal P w K mg base (d + 4) "_law_built" (S_built K d).sp []
  | 0 => by
    refine cal_sym D sc__law_built (fun _ _ _ _ _ _ us hl => match us, hl with | [_], _ => rfl) (fun a ds L M h => by obtain ⟨rfl, _⟩ := h; rfl) (fun f cdv A outer s H E hr => ⟨_, pss_never, fun (t : Tr) ds L M h => ?_⟩)
    obtain ⟨_, h, _⟩ := h
    cases t <;> simp [Tr.depth] at h
  | d + 1 => by
    have ih := ok_built T D mOf mAl mNe dI dAn dOr d
    refine cal_sym D sc__law_built (fun _ _ _ _ _ _ us hl => match us, hl with | [_], _ => rfl) (fun a ds L M h => by obtain ⟨rfl, _⟩ := h; rfl) (fun f cdv A outer s H E hr => ⟨_, pss_cons (ps_if (pt_cmpR op_eq (pe_ix ix_tup (pv 0) pe_int (fun _ _ => rfl)) pe_str (nomark _)) (pss_one (ps_ret (pe_st mOf hr (by omega) (pe_gr rfl T.g_Condition) (pa_cons (pe_ix ix_tup (pv 0) pe_int (fun _ _ => rfl)) pa_nil)))) pss_nil) (pss_cons (ps_if (pt_cmpR op_eq (pe_ix ix_tup (pv 0) pe_int (fun _ _ => rfl)) pe_str (nomark _)) (pss_one (ps_ret (pe_un (un_O dI hr (by omega)) (pe_c ih hr (by omega) rfl (pa_cons (pe_ix ix_tup (pv 0) pe_int (fun _ _ => rfl)) pa_nil))))) pss_nil) (pss_cons (ps_if (pt_cmpR op_eq (pe_ix ix_tup (pv 0) pe_int (fun _ _ => rfl)) pe_str (nomark _)) (pss_one (ps_ret (pe_op (op_andO dAn hr (by omega) T.s_Cond) (pe_c ih hr (by omega) rfl (pa_cons (pe_ix ix_tup (pv 0) pe_int (fun _ _ => rfl)) pa_nil)) (pe_c ih hr (by omega) rfl (pa_cons (pe_ix ix_tup (pv 0) pe_int (fun _ _ => rfl)) pa_nil))))) pss_nil) (pss_cons (ps_if (pt_cmpR op_eq (pe_ix ix_tup (pv 0) pe_int (fun _ _ => rfl)) pe_str (nomark _)) (pss_one (ps_ret (pe_op (op_orO dOr hr (by omega) T.s_Cond) (pe_c ih hr (by omega) rfl (pa_cons (pe_ix ix_tup (pv 0) pe_int (fun _ _ => rfl)) pa_nil)) (pe_c ih hr (by omega) rfl (pa_cons (pe_ix ix_tup (pv 0) pe_int (fun _ _ => rfl)) pa_nil))))) pss_nil) (pss_one (ps_ret (pe_ifExp (pt_cmpR op_eq (pe_ix ix_tup (pv 0) pe_int (fun _ _ => rfl)) pe_str (nomark _)) (pe_st0 mAl hr (by omega) (pe_gr rfl T.g_Condition)) (pe_st0 mNe hr (by omega) (pe_gr rfl T.g_Condition)))))))), fun (t : Tr) ds L M h => ?_⟩)
    obtain ⟨rfl, h1, h2⟩ := h
    cases t with
    | is x =>
      walk_at "sy"
      refine o_ixT (n := 0) (d := .s "is") rfl ?_
      walk_at "sy"
      walk_at "eqT"
      refine ⟨rfl, ?_⟩
      walk_at "sy"
      refine o_ixT (n := 1) (d := .s x) rfl ?_
      walk_at "sy"
      refine ⟨x, ⟨rfl, h2 x (List.mem_singleton.mpr rfl)⟩, ?_⟩
      rintro d M' ⟨rfl, rfl⟩
      exact ⟨rfl, rfl⟩
    | nt t =>
      have h : t.depth + 1 ≤ d + 1 := h1
      walk_at "sy"
      refine o_ixT (n := 0) (d := .s "not") rfl ?_
      walk_at "sy"
      walk_at "eqF"
      refine o_ixT (n := 0) (d := .s "not") rfl ?_
      walk_at "sy"
      walk_at "eqT"
      refine o_ixT (n := 1) (d := t.d) rfl ?_
      walk_at "sy"
      refine ⟨t, ⟨rfl, by show t.depth ≤ d; omega, h2⟩, ?_⟩
      rintro d M' ⟨rfl, rfl⟩
      refine u_own ⟨_, rfl⟩ ⟨t, ⟨rfl, trivial⟩, ?_⟩
      rintro d M' ⟨rfl, rfl⟩
      exact ⟨rfl, rfl⟩
    | an t u =>
      have h : max t.depth u.depth + 1 ≤ d + 1 := h1
      walk_at "sy"
      refine o_ixT (n := 0) (d := .s "and") rfl ?_
      walk_at "sy"
      walk_at "eqF"
      refine o_ixT (n := 0) (d := .s "and") rfl ?_
      walk_at "sy"
      walk_at "eqF"
      refine o_ixT (n := 0) (d := .s "and") rfl ?_
      walk_at "sy"
      walk_at "eqT"
      refine o_ixT (n := 1) (d := t.d) rfl ?_
      walk_at "sy"
      refine ⟨t, ⟨rfl, by show t.depth ≤ d; omega, fun x hx => h2 x (List.mem_append_left _ hx)⟩, ?_⟩
      rintro d1 M' ⟨rfl, rfl⟩
      walk_at "sy"
      refine o_ixT (n := 2) (d := u.d) rfl ?_
      walk_at "sy"
      refine ⟨u, ⟨rfl, by show u.depth ≤ d; omega, fun x hx => h2 x (List.mem_append_right _ hx)⟩, ?_⟩
      rintro d2 M' ⟨rfl, rfl⟩
      refine o_own2 ⟨_, rfl⟩ ⟨_, rfl⟩ ⟨(t, u), ⟨rfl, trivial⟩, ?_⟩
      rintro d3 M' ⟨rfl, rfl⟩
      exact ⟨rfl, rfl⟩
    | or t u =>
      have h : max t.depth u.depth + 1 ≤ d + 1 := h1
      walk_at "sy"
      refine o_ixT (n := 0) (d := .s "or") rfl ?_
      walk_at "sy"
      walk_at "eqF"
      refine o_ixT (n := 0) (d := .s "or") rfl ?_
      walk_at "sy"
      walk_at "eqF"
      refine o_ixT (n := 0) (d := .s "or") rfl ?_
      walk_at "sy"
      walk_at "eqF"
      refine o_ixT (n := 0) (d := .s "or") rfl ?_
      walk_at "sy"
      walk_at "eqT"
      refine o_ixT (n := 1) (d := t.d) rfl ?_
      walk_at "sy"
      refine ⟨t, ⟨rfl, by show t.depth ≤ d; omega, fun x hx => h2 x (List.mem_append_left _ hx)⟩, ?_⟩
      rintro d1 M' ⟨rfl, rfl⟩
      walk_at "sy"
      refine o_ixT (n := 2) (d := u.d) rfl ?_
      walk_at "sy"
      refine ⟨u, ⟨rfl, by show u.depth ≤ d; omega, fun x hx => h2 x (List.mem_append_right _ hx)⟩, ?_⟩
      rintro d2 M' ⟨rfl, rfl⟩
      refine o_own2 ⟨_, rfl⟩ ⟨_, rfl⟩ ⟨(t, u), ⟨rfl, trivial⟩, ?_⟩
      rintro d3 M' ⟨rfl, rfl⟩
      exact ⟨rfl, rfl⟩
    | alw =>
      walk_at "sy"
      refine o_ixT (n := 0) (d := .s "always") rfl ?_
      walk_at "sy"
      walk_at "eqF"
      refine o_ixT (n := 0) (d := .s "always") rfl ?_
      walk_at "sy"
      walk_at "eqF"
      refine o_ixT (n := 0) (d := .s "always") rfl ?_
      walk_at "sy"
      walk_at "eqF"
      refine o_ixT (n := 0) (d := .s "always") rfl ?_
      walk_at "sy"
      walk_at "eqF"
      refine o_ixT (n := 0) (d := .s "always") rfl ?_
      walk_at "sy"
      walk_at "eqT"
      refine ⟨rfl, ?_⟩
      walk_at "sy"
      refine ⟨(), ⟨rfl, trivial⟩, ?_⟩
      rintro d M' ⟨rfl, rfl⟩
      exact ⟨rfl, rfl⟩
    | nev =>
      walk_at "sy"
      refine o_ixT (n := 0) (d := .s "never") rfl ?_
      walk_at "sy"
      walk_at "eqF"
      refine o_ixT (n := 0) (d := .s "never") rfl ?_
      walk_at "sy"
      walk_at "eqF"
      refine o_ixT (n := 0) (d := .s "never") rfl ?_
      walk_at "sy"
      walk_at "eqF"
      refine o_ixT (n := 0) (d := .s "never") rfl ?_
      walk_at "sy"
      walk_at "eqF"
      refine o_ixT (n := 0) (d := .s "never") rfl ?_
      walk_at "sy"
      walk_at "eqF"
      refine ⟨rfl, ?_⟩
      walk_at "sy"
      refine ⟨(), ⟨rfl, trivial⟩, ?_⟩
      rintro d M' ⟨rfl, rfl⟩
      exact ⟨rfl, rfl⟩
end
end K85
set_option maxRecDepth 100000
set_option maxHeartbeats 4000000
/-! the law's changes -/
namespace K85
open PySem L2
open C8 (Cal Met Mak pe_c pe_mk pe_mt pe_mt0 pe_gc)
local macro_rules | `(tactic| walk_at "sy1") => `(tactic| with_reducible first
  | refine r_seq ?_ | refine r_if ?_ | refine r_ret ?_ | refine r_retN ?_ | refine r_asg ?_ | refine r_drop ?_ | refine r_brk ?_ | refine r_cont ?_ | refine r_fld ?_ | refine r_dput ?_ | refine r_for ?_ | refine r_next ?_
  | refine g_name ?_ | refine g_tup ?_ | refine g_unl ?_ | refine g_cons ?_ | refine g_nil ?_
  | refine t_test ?_ | refine t_B ?_ | refine t_not ?_ | refine t_and ?_ | refine t_or ?_ | refine t_yes ?_
  | refine e_var rfl ?_ | refine e_int ?_ | refine e_str ?_ | refine e_bl ?_ | refine e_non ?_ | refine e_ref ?_ | refine e_op ?_ | refine e_un ?_ | refine e_andV ?_ | refine e_orV ?_ | refine e_notV ?_ | refine e_if ?_ | refine e_isN ?_ | refine e_notN ?_
  | refine e_tup ?_ | refine e_fld ?_ | refine e_call0 ?_ | refine e_meth0 ?_ | refine e_cb ?_ | refine e_bm ?_ | refine e_dget ?_ | refine e_dget1 ?_ | refine e_din ?_ | refine e_dnotin ?_ | refine e_chain ?_ | refine e_fcall ?_ | refine e_sm ?_
  | refine a_nil ?_ | refine a_cons ?_ | refine i_list ?_ | refine i_tup ?_ | refine i_seq ?_ | refine i_rng1 ?_ | refine i_str ?_
  | refine s_none ?_ | refine s_some ?_ | refine e_slL ?_ | refine e_slT ?_
  | refine o_II ?_ | refine o_IB ?_)
local macro_rules | `(tactic| walk_at "sy") => `(tactic| repeat (first | walk_at "sy1" | refine ⟨_, rfl, ?_⟩ | refine ⟨(rfl : List.lookup _ _ = none), ?_⟩))
local macro_rules | `(tactic| walk_at "eqF") => `(tactic| (refine o_eq rfl rfl rfl ?_; walk_at "sy"; refine iF (by decide +kernel) ?_; walk_at "sy"))
local macro_rules | `(tactic| walk_at "eqT") => `(tactic| (refine o_eq rfl rfl rfl ?_; walk_at "sy"; refine iT (by decide +kernel) ?_; walk_at "sy"))
local macro_rules | `(tactic| walk_at "pureEnd") => `(tactic| (rintro d M' ⟨rfl, rfl⟩))
abbrev s__law_seen : Stmt := top 57
theorem sc__law_seen : FnScope ["_law_w"] ["_law_w"] (defScope s__law_seen) := ⟨rfl, rfl, rfl, by decide +kernel, rfl, by decide +kernel, by decide +kernel⟩
abbrev s__law_changes : Stmt := top 58
theorem sc__law_changes : FnScope ["_law_stream", "_law_w", "_law_free", "_law_changes_here", "_law_name_here", "_law_way"] ["_law_stream", "_law_w", "_law_free"] (defScope s__law_changes) := ⟨rfl, rfl, rfl, by decide +kernel, rfl, by decide +kernel, by decide +kernel⟩
structure WHas (M : Mm) (x : Dt) (f pl r : List Str) : Prop where
  ex : ∃ kvs, vw M x = .dK kvs ∧ lookA kvs "facts" = some (.lst (dStrs f)) ∧ lookA kvs "piles" = some (.lst (dStrs pl)) ∧ lookA kvs "reserves" = some (.lst (dStrs r))
theorem WHas.frm {M M' : Mm} {x : Dt} {f pl r : List Str} {p sc : Addr} {n : Nat} (h : WHas M x f pl r) (s : Stm M p sc n) (k : Frm p sc M M') : WHas M' x f pl r := by
  obtain ⟨kvs, h1, h2⟩ := h.ex
  refine ⟨kvs, ?_, h2⟩
  rcases vw_of h1 (fun _ q => nomatch q) with rfl | ⟨a, rfl, e⟩
  · rfl
  · refine vw_adr ?_
    rw [k a ?_ ?_]
    · exact e
    · rintro rfl
      obtain ⟨is, a, y, e1, _⟩ := s
      rw [e] at e1
      cases e1
    · rintro rfl
      obtain ⟨is, a, y, e1, e2, _⟩ := s
      rw [e] at e2
      cases e2
theorem WHas.mset {M : Mm} {x : Dt} {f pl r : List Str} {c : Addr} {d : Dt} (h : WHas M x f pl r) (hx : x ≠ .adr c) : WHas (K85.mset M c d) x f pl r := by
  obtain ⟨kvs, h1, h2⟩ := h.ex
  refine ⟨kvs, ?_, h2⟩
  rcases vw_of h1 (fun _ q => nomatch q) with rfl | ⟨a, rfl, e⟩
  · rfl
  · refine vw_adr ?_
    rw [mset_ne (fun z => hx (by rw [z]))]
    exact e
theorem WHas.ne {M : Mm} {x : Dt} {f pl r : List Str} {c : Addr} (h : WHas M x f pl r) (hc : M c = none) : x ≠ .adr c := by
  rintro rfl
  obtain ⟨kvs, h1, h2⟩ := h.ex
  rcases vw_of h1 (fun _ q => nomatch q) with e | ⟨a, e, e2⟩
  · cases e
  · cases e
    rw [hc] at e2
    cases e2
abbrev S_lseen : FS := ⟨List Str × List Str × List Str, fun q ds L M => (∃ x, ds = [x] ∧ WHas M x q.1 q.2.1 q.2.2) ∧ q.1.length + q.2.1.length ≤ 100, fun q M d M' => M = M' ∧ d = .lst (dStrs (q.1 ++ q.2.1))⟩
section
variable {P : Program} {w : World} {K : PySem.W.Frag} {mg : Str → Option Value} {base : Heap}
theorem ok_lseen (T : Tx K mg) (D : Df K mg "_law_seen" s__law_seen) : Cal P w K mg base 1 "_law_seen" S_lseen.sp [] := by
  refine cal_sym D sc__law_seen (fun _ _ _ _ _ _ us hl => match us, hl with | [_], _ => rfl) (fun a ds L M h => by obtain ⟨⟨x, rfl, _⟩, _⟩ := h; rfl) (fun f cdv A outer s H E hr => ⟨_, pss_one (ps_ret (pe_op op_cat (pe_dget (hu_of hr) (pv 0) pe_str (fun _ _ => rfl)) (pe_dget (hu_of hr) (pv 0) pe_str (fun _ _ => rfl)))), fun (f, pl, r) ds L M h => ?_⟩)
  obtain ⟨⟨x, rfl, hw⟩, hl⟩ := h
  obtain ⟨kvs, h1, h2, h3, h4⟩ := hw.ex
  have e1 : ∀ l : List Str, (dStrs l).length = l.length := fun l => by simp [dStrs]
  walk_at "sy"
  refine .inl ⟨_, _, h1, rfl, ?_⟩
  refine ⟨_, h2, ?_⟩
  walk_at "sy"
  refine .inl ⟨_, _, h1, rfl, ?_⟩
  refine ⟨_, h3, ?_⟩
  refine o_cat rfl rfl (by rw [e1, e1]; show f.length + pl.length ≤ 100000; have : f.length + pl.length ≤ 100 := hl; omega) ?_
  refine ⟨rfl, ?_⟩
  simp [dStrs]
def putC (o : Out) (k : Str) (c : Ch) : Out := if o.any (fun q => decide (q.1 = k)) then o.map (fun q => if q.1 = k then (q.1, c) else q) else o ++ [(k, c)]
theorem putC_mem {o : Out} {k : Str} {c : Ch} {q : Str × Ch} (h : q ∈ putC o k c) : q ∈ o ∨ q = (k, c) := by
  unfold putC at h
  split at h
  · obtain ⟨z, hz, e⟩ := List.mem_map.mp h
    split at e
    · rename_i hk
      rw [hk] at e
      exact .inr e.symm
    · exact .inl (e ▸ hz)
  · rcases List.mem_append.mp h with h | h
    · exact .inl h
    · exact .inr (by simpa using h)
theorem putC_keys {o : Out} {k : Str} {c : Ch} (h : (o.map (·.1)).Nodup) : ((putC o k c).map (·.1)).Nodup := by
  unfold putC
  split
  · have e : (o.map (fun q => if q.1 = k then (q.1, c) else q)).map (·.1) = o.map (·.1) := by
      rw [List.map_map]
      refine List.map_congr_left fun q _ => ?_
      show (if q.1 = k then (q.1, c) else q).1 = q.1
      split <;> rfl
    rw [e]
    exact h
  · rename_i hn
    rw [List.map_append]
    refine List.nodup_append.mpr ⟨h, by simp, fun a ha b hb => ?_⟩
    simp at hb
    subst hb
    rintro rfl
    obtain ⟨q, hq, e⟩ := List.mem_map.mp ha
    exact hn (List.any_eq_true.mpr ⟨q, hq, by simpa using e⟩)
theorem kOut_put (o : Out) (k : Str) (c : Ch) : putA (kOut o) k c.d = kOut (putC o k c) := by
  have e : ((kOut o).any fun kv => decide (kv.1 = k)) = o.any fun q => decide (q.1 = k) := by
    unfold kOut
    rw [List.any_map]
    rfl
  unfold putA putC
  rw [e]
  split
  · unfold kOut
    rw [List.map_map, List.map_map]
    refine List.map_congr_left fun q _ => ?_
    show (if q.1 = k then (q.1, c.d) else (q.1, q.2.d)) = (let z := if q.1 = k then (q.1, c) else q; (z.1, z.2.d))
    split <;> rfl
  · unfold kOut
    rw [List.map_append]
    rfl
/-- what a drawn change may be -/
def ChD (f pl r : List Str) (free : Bool) (q : Str × Ch) : Prop := (q.1 ∈ f ∧ (q.2 = .tru ∨ q.2 = .fls)) ∨ (q.1 ∈ pl ∧ (q.2 = .add ∨ q.2 = .take ∨ q.2 = .emp)) ∨ (q.1 ∈ r ∧ (q.2 = .add ∨ (q.2 = .take ∧ free = false)))
structure OutD (f pl r : List Str) (free : Bool) (o : Out) : Prop where
  nd : (o.map (·.1)).Nodup
  ch : ∀ q ∈ o, ChD f pl r free q
theorem OutD.put {f pl r : List Str} {free : Bool} {o : Out} {k : Str} {c : Ch} (h : OutD f pl r free o) (hc : ChD f pl r free (k, c)) : OutD f pl r free (putC o k c) :=
  ⟨putC_keys h.nd, fun q hq => (putC_mem hq).elim (h.ch q) fun e => e ▸ hc⟩
theorem OutD.len {f pl r : List Str} {free : Bool} {o : Out} (h : OutD f pl r free o) : o.length ≤ (f ++ pl ++ r).length := by
  have := nodup_le' h.nd (m := f ++ pl ++ r) fun s hs => by
    obtain ⟨q, hq, rfl⟩ := List.mem_map.mp hs
    rcases h.ch q hq with ⟨h, _⟩ | ⟨h, _⟩ | ⟨h, _⟩
    · exact List.mem_append_left _ (List.mem_append_left _ h)
    · exact List.mem_append_left _ (List.mem_append_right _ h)
    · exact List.mem_append_right _ h
  rw [List.length_map] at this
  exact this
abbrev S_chg : FS := ⟨Addr × Addr × Nat × List Str × List Str × List Str × Bool, fun q ds L M => let (p, sc, n, f, pl, r, free) := q
    (∃ x, ds = [.adr p, x, .b free] ∧ WHas M x f pl r) ∧ Stm M p sc n ∧ n < 80000 ∧ (f ++ pl ++ r).length ≤ 8,
  fun q M d M' => let (p, sc, n, f, pl, r, free) := q
    ∃ (o : Out) (k : Nat), d = .dK (kOut o) ∧ OutD f pl r free o ∧ k ≤ 16 ∧ Stm M' p sc (n + k) ∧ Frm p sc M M'⟩
theorem ok_chg (T : Tx K mg) (D : Df K mg "_law_changes" s__law_changes) (cD : Cal P w K mg base 1 "_law_draw" S_draw.sp []) (cM : Cal P w K mg base 2 "_law_mixed" S_mixed.sp []) : Cal P w K mg base 3 "_law_changes" S_chg.sp [] := by
  refine cal_sym D sc__law_changes (fun _ _ _ _ _ _ us hl => match us, hl with | [_, _, _], _ => rfl) (fun a ds L M h => by obtain ⟨⟨x, rfl, _⟩, _⟩ := h; rfl) (fun f cdv A outer s H E hr => ⟨_, pss_cons (ps_set (i := 3) sc__law_changes.nd rfl (Or.inl rfl) pe_dnewK) (pss_cons (ps_for PassesOwn.never rfl (pi_list (pe_c cM hr (by omega) rfl (pa_cons (pv 0) (pa_cons (pe_dget (hu_of hr) (pv 1) pe_str (fun _ _ => rfl)) pa_nil)))) (pg_name (i := 4) sc__law_changes.nd rfl (Or.inl rfl)) (pss_cons (ps_set (i := 5) sc__law_changes.nd rfl (Or.inl rfl) (pe_c cD hr (by omega) rfl (pa_cons (pv 0) (pa_cons pe_int pa_nil)))) (pss_one (ps_if (pt_cmpR op_lt (pv 5) pe_int (nomark _)) (pss_one (ps_dput (hu_of hr) (pv 3) (pv 4) (pe_cmpR op_eq (pv 5) pe_int (nomark _)) rfl)) pss_nil)))) (pss_cons (ps_for PassesOwn.never rfl (pi_list (pe_c cM hr (by omega) rfl (pa_cons (pv 0) (pa_cons (pe_dget (hu_of hr) (pv 1) pe_str (fun _ _ => rfl)) pa_nil)))) (pg_name (i := 4) sc__law_changes.nd rfl (Or.inl rfl)) (pss_cons (ps_set (i := 5) sc__law_changes.nd rfl (Or.inl rfl) (pe_c cD hr (by omega) rfl (pa_cons (pv 0) (pa_cons pe_int pa_nil)))) (pss_one (ps_if (pt_cmpR op_lt (pv 5) pe_int (nomark _)) (pss_one (ps_dput (hu_of hr) (pv 3) (pv 4) (pe_ix ix_list (pe_lst (pa_cons pe_str (pa_cons pe_str (pa_cons pe_str (pa_cons pe_str pa_nil))))) (pv 5) (fun _ _ => rfl)) rfl)) pss_nil)))) (pss_cons (ps_for PassesOwn.never rfl (pi_list (pe_dget (hu_of hr) (pv 1) pe_str (fun _ _ => rfl))) (pg_name (i := 4) sc__law_changes.nd rfl (Or.inl rfl)) (pss_cons (ps_set (i := 5) sc__law_changes.nd rfl (Or.inl rfl) (pe_c cD hr (by omega) rfl (pa_cons (pv 0) (pa_cons pe_int pa_nil)))) (pss_one (ps_if (PW.pt (pw_and (pt_cmpR op_eq (pv 5) pe_int (nomark _)) (pw_and1 (pt_not (pt_val (pv 2)))))) (pss_one (ps_dput (hu_of hr) (pv 3) (pv 4) pe_str rfl)) (pss_one (ps_if (pt_cmpR op_eq (pv 5) pe_int (nomark _)) (pss_one (ps_dput (hu_of hr) (pv 3) (pv 4) pe_str rfl)) pss_nil)))))) (pss_one (ps_ret (pv 3)))))), fun (p, sc, n, f, pl, r, free) ds L M h => ?_⟩)
  obtain ⟨⟨x, rfl, hw⟩, hS, hn, hl⟩ := h
  have hl' : f.length + pl.length + r.length ≤ 8 := by
    rw [List.length_append, List.length_append] at hl
    exact hl
  walk_at "sy"
  refine e_dnewK fun c hc => ?_
  have hcp := hS.ne hc
  -- what stands between
  let J : Nat → Mm → Prop := fun m M' => ∃ o k, M' c = some (.dK (kOut o)) ∧ OutD f pl r free o ∧ k ≤ m ∧ Stm M' p sc (n + k) ∧ WHas M' x f pl r ∧ ∀ b, b ≠ p → b ≠ sc → b ≠ c → M' b = M b
  have hxc := hw.ne hc
  have fin : ∀ (o : Out) (k : Nat) (M2 : Mm) (o' : Out) (m : Nat), M2 c = some (.dK (kOut o)) → OutD f pl r free o' → Stm M2 p sc (n + k + 1) → WHas M2 x f pl r → (∀ b, b ≠ p → b ≠ sc → b ≠ c → M2 b = M b) → k + 1 ≤ m → J m (mset M2 c (.dK (kOut o'))) := fun o k M2 o' m a1 a2 a3 a4 a5 a6 =>
    ⟨o', k + 1, mset_same, a2, a6, a3.mset hcp.1 hcp.2, a4.mset hxc, fun b h1 h2 h3 => by rw [mset_ne h3]; exact a5 b h1 h2 h3⟩
  have j0 : J 0 (mset M c (.dK [])) := ⟨[], 0, mset_same, ⟨List.nodup_nil, fun q h => nomatch h⟩, by omega, hS.new hc, hw.mset hxc, fun b h1 h2 h3 => mset_ne h3⟩
  walk_at "sy"
  obtain ⟨kvs, g1, g2, g3, g4⟩ := (hw.mset (d := .dK []) hxc).ex
  refine .inl ⟨_, _, g1, rfl, ?_⟩
  refine ⟨_, g2, ?_⟩
  walk_at "sy"
  refine ⟨(p, sc, n, f), ⟨rfl, hS.new hc, by omega, by omega⟩, ?_⟩
  rintro d M1 ⟨ys, hy1, hy2, rfl, hS1, hF1⟩
  have j1 : J f.length M1 := ⟨[], f.length, by rw [hF1 c hcp.1 hcp.2]; exact mset_same, ⟨List.nodup_nil, fun q h => nomatch h⟩, by omega, hS1, (hw.mset hxc).frm (hS.new hc) hF1, fun b h1 h2 h3 => by rw [hF1 b h1 h2]; exact mset_ne h3⟩
  refine ⟨_, rfl, fun i Γ' M' => (∃ u4 u5, Γ' = [some (.adr p), some x, some (.b free), some (.adr c), u4, u5]) ∧ J (f.length + i) M', ⟨⟨_, _, rfl⟩, j1⟩, ?_, ?_⟩
  · rintro i d Γ' M' hd ⟨⟨u4, u5, rfl⟩, o, k, q1, q2, q3, q4, q5, q6⟩
    obtain ⟨z, hz, rfl⟩ := at_map hd
    have hil := (List.getElem?_eq_some_iff.mp hz).1
    have hzf := hy1 z (List.mem_of_getElem? hz)
    walk_at "sy"
    refine ⟨(p, sc, n + k, 4), ⟨rfl, q4, by show n + k < 100000; omega, by show 0 < 4; omega, by show 4 ≤ 1000; omega⟩, ?_⟩
    rintro d2 M2 ⟨wy, hwy, rfl, hS2, hF2⟩
    have q1' : M2 c = some (.dK (kOut o)) := by rw [hF2 c hcp.1 hcp.2]; exact q1
    walk_at "sy"
    refine iB (fun e => ?_) (fun e => ?_)
    · walk_at "sy"
      refine o_eq rfl rfl rfl ?_
      walk_at "sy"
      refine .inl ⟨_, _, q1', rfl, ?_, ?_⟩
      · have := q2.len
        simp [kOut]
        omega
      · have ec : (.b (decide (V.int (wy : Int) = V.int 0)) : Dt) = (if wy = 0 then Ch.tru else Ch.fls).d := by
          by_cases h0 : wy = 0
          · rw [h0]
            rfl
          · rw [if_neg h0, decide_eq_false (fun z => h0 (by have := V.int.inj z; omega))]
            rfl
        rw [ec, kOut_put]
        refine ⟨⟨_, _, rfl⟩, fin o k M2 _ _ q1' (q2.put (.inl ⟨hzf, ?_⟩)) hS2 (q5.frm q4 hF2) (fun b h1 h2 h3 => by rw [hF2 b h1 h2]; exact q6 b h1 h2 h3) (by omega)⟩
        show (if wy = 0 then Ch.tru else Ch.fls) = .tru ∨ (if wy = 0 then Ch.tru else Ch.fls) = .fls
        split
        · exact .inl rfl
        · exact .inr rfl
    · walk_at "sy"
      exact ⟨⟨_, _, rfl⟩, o, k + 1, q1', q2, by omega, hS2, q5.frm q4 hF2, fun b h1 h2 h3 => by rw [hF2 b h1 h2]; exact q6 b h1 h2 h3⟩
  rintro Γ' M' ⟨⟨u4, u5, rfl⟩, j2⟩
  have e3 : (dStrs ys).length = f.length := by simp [dStrs, hy2]
  rw [e3] at j2
  obtain ⟨o, k, q1, q2, q3, q4, q5, q6⟩ := j2
  walk_at "sy"
  obtain ⟨kvs', g1', g2', g3', g4'⟩ := q5.ex
  refine .inl ⟨_, _, g1', rfl, ?_⟩
  refine ⟨_, g3', ?_⟩
  walk_at "sy"
  refine ⟨(p, sc, n + k, pl), ⟨rfl, q4, by omega, by omega⟩, ?_⟩
  rintro d M2 ⟨ys2, hz1, hz2, rfl, hS2, hF2⟩
  have j3 : J (f.length + f.length + pl.length) M2 := ⟨o, k + pl.length, by rw [hF2 c hcp.1 hcp.2]; exact q1, q2, by omega, by rw [← Nat.add_assoc]; exact hS2, q5.frm q4 hF2, fun b h1 h2 h3 => by rw [hF2 b h1 h2]; exact q6 b h1 h2 h3⟩
  refine ⟨_, rfl, fun i Γ' M' => (∃ u4 u5, Γ' = [some (.adr p), some x, some (.b free), some (.adr c), u4, u5]) ∧ J (f.length + f.length + pl.length + i) M', ⟨⟨_, _, rfl⟩, j3⟩, ?_, ?_⟩
  · rintro i d Γ' M' hd ⟨⟨u4, u5, rfl⟩, o, k, q1, q2, q3, q4, q5, q6⟩
    obtain ⟨z, hz, rfl⟩ := at_map hd
    have hil := (List.getElem?_eq_some_iff.mp hz).1
    have hzf := hz1 z (List.mem_of_getElem? hz)
    walk_at "sy"
    refine ⟨(p, sc, n + k, 7), ⟨rfl, q4, by show n + k < 100000; omega, by show 0 < 7; omega, by show 7 ≤ 1000; omega⟩, ?_⟩
    rintro d2 M2 ⟨wy, hwy, rfl, hS2, hF2⟩
    have q1' : M2 c = some (.dK (kOut o)) := by rw [hF2 c hcp.1 hcp.2]; exact q1
    walk_at "sy"
    refine iB (fun e => ?_) (fun e => ?_)
    · have e : ((wy : Nat) : Int) < 4 := of_decide_eq_true e
      walk_at "sy"
      refine e_lst ?_
      walk_at "sy"
      refine ⟨by simp, ?_⟩
      walk_at "sy"
      obtain ⟨cc, hcc, hcd⟩ : ∃ cc : Ch, ([.s "take", .s "take", .s "add", .s "empty"] : List Dt)[wy]? = some cc.d ∧ (cc = .add ∨ cc = .take ∨ cc = .emp) := by
        match wy, (show wy < 4 by omega) with
        | 0, _ => exact ⟨.take, rfl, .inr (.inl rfl)⟩
        | 1, _ => exact ⟨.take, rfl, .inr (.inl rfl)⟩
        | 2, _ => exact ⟨.add, rfl, .inl rfl⟩
        | 3, _ => exact ⟨.emp, rfl, .inr (.inr rfl)⟩
      refine o_ixL (n := wy) rfl hcc ?_
      walk_at "sy"
      refine .inl ⟨_, _, q1', rfl, ?_, ?_⟩
      · have := q2.len
        simp [kOut]
        omega
      · rw [kOut_put]
        exact ⟨⟨_, _, rfl⟩, fin o k M2 _ _ q1' (q2.put (.inr (.inl ⟨hzf, hcd⟩))) hS2 (q5.frm q4 hF2) (fun b h1 h2 h3 => by rw [hF2 b h1 h2]; exact q6 b h1 h2 h3) (by omega)⟩
    · walk_at "sy"
      exact ⟨⟨_, _, rfl⟩, o, k + 1, q1', q2, by omega, hS2, q5.frm q4 hF2, fun b h1 h2 h3 => by rw [hF2 b h1 h2]; exact q6 b h1 h2 h3⟩
  rintro Γ' M' ⟨⟨u4, u5, rfl⟩, j4⟩
  have e4 : (dStrs ys2).length = pl.length := by simp [dStrs, hz2]
  rw [e4] at j4
  obtain ⟨o, k, q1, q2, q3, q4, q5, q6⟩ := j4
  walk_at "sy"
  obtain ⟨kvs', g1', g2', g3', g4'⟩ := q5.ex
  refine .inl ⟨_, _, g1', rfl, ?_⟩
  refine ⟨_, g4', ?_⟩
  refine ⟨_, rfl, fun i Γ' M' => (∃ u4 u5, Γ' = [some (.adr p), some x, some (.b free), some (.adr c), u4, u5]) ∧ J (f.length + f.length + pl.length + pl.length + i) M', ⟨⟨_, _, rfl⟩, o, k, q1, q2, q3, q4, q5, q6⟩, ?_, ?_⟩
  · rintro i d Γ' M' hd ⟨⟨u4, u5, rfl⟩, o, k, q1, q2, q3, q4, q5, q6⟩
    obtain ⟨z, hz, rfl⟩ := at_map hd
    have hil := (List.getElem?_eq_some_iff.mp hz).1
    have hzf := List.mem_of_getElem? hz
    walk_at "sy"
    refine ⟨(p, sc, n + k, 4), ⟨rfl, q4, by show n + k < 100000; omega, by show 0 < 4; omega, by show 4 ≤ 1000; omega⟩, ?_⟩
    rintro d2 M2 ⟨wy, hwy, rfl, hS2, hF2⟩
    have q1' : M2 c = some (.dK (kOut o)) := by rw [hF2 c hcp.1 hcp.2]; exact q1
    have hlen : (kOut o).length ≤ 100000 := by
      have := q2.len
      simp [kOut]
      omega
    have same : J (f.length + f.length + pl.length + pl.length + (i + 1)) M2 := ⟨o, k + 1, q1', q2, by omega, hS2, q5.frm q4 hF2, fun b h1 h2 h3 => by rw [hF2 b h1 h2]; exact q6 b h1 h2 h3⟩
    have put : ∀ cc : Ch, (cc = .add ∨ (cc = .take ∧ free = false)) → J (f.length + f.length + pl.length + pl.length + (i + 1)) (mset M2 c (.dK (kOut (putC o z cc)))) := fun cc hcc => fin o k M2 _ _ q1' (q2.put (.inr (.inr ⟨hzf, hcc⟩))) hS2 (q5.frm q4 hF2) (fun b h1 h2 h3 => by rw [hF2 b h1 h2]; exact q6 b h1 h2 h3) (by omega)
    refine g_name ?_
    refine r_if ?_
    refine EvT.cut (PB := fun b M' => b = (decide (wy = 0) && !free) ∧ M2 = M') ?_ ?_
    · walk_at "sy"
      refine o_eq rfl rfl rfl ⟨_, rfl, iB (fun e => ?_) (fun e => ?_)⟩
      · have h0 : wy = 0 := by
          have := V.int.inj (of_decide_eq_true e)
          omega
        walk_at "sy"
        exact ⟨by rw [h0]; rfl, rfl⟩
      · have h0 : ¬ wy = 0 := fun z => of_decide_eq_false e (by rw [z]; rfl)
        exact ⟨by rw [decide_eq_false h0]; rfl, rfl⟩
    rintro b M' ⟨rfl, rfl⟩
    refine iB (fun e => ?_) (fun e => ?_)
    · rw [Bool.and_eq_true, Bool.not_eq_true'] at e
      walk_at "sy"
      refine .inl ⟨_, _, q1', rfl, hlen, ?_⟩
      have ep : ∀ M0 : Mm, mset M0 c (.dK (putA (kOut o) z (.s "take"))) = mset M0 c (.dK (kOut (putC o z .take))) := fun M0 => by rw [← kOut_put]; rfl
      rw [ep]
      exact ⟨⟨_, _, rfl⟩, put .take (.inr ⟨rfl, e.2⟩)⟩
    · walk_at "sy"
      refine o_eq rfl rfl rfl ⟨_, rfl, iB (fun e => ?_) (fun e => ?_)⟩
      · walk_at "sy"
        refine .inl ⟨_, _, q1', rfl, hlen, ?_⟩
        have ep : ∀ M0 : Mm, mset M0 c (.dK (putA (kOut o) z (.s "add"))) = mset M0 c (.dK (kOut (putC o z .add))) := fun M0 => by rw [← kOut_put]; rfl
        rw [ep]
        exact ⟨⟨_, _, rfl⟩, put .add (.inl rfl)⟩
      · walk_at "sy"
        exact ⟨⟨_, _, rfl⟩, same⟩
  rintro Γ' M' ⟨⟨u4, u5, rfl⟩, o, k, q1, q2, q3, q4, q5, q6⟩
  have e5 : (dStrs r).length = r.length := by simp [dStrs]
  rw [e5] at q3
  refine r_ret (e_frz (e_var rfl ⟨c, _, rfl, q1, o, k, rfl, q2, by omega, q4.mdel hcp.1 hcp.2, fun b h1 h2 => ?_⟩))
  by_cases g : b = c
  · subst g
    rw [hc]
    simp [mdel]
  · rw [mdel_ne g]
    exact q6 b h1 h2 g
end
end K85
set_option maxRecDepth 100000
set_option maxHeartbeats 4000000
/-! the law's actions -/
namespace K85
open PySem L2
open C8 (Cal Met Mak pe_c pe_mk pe_mt pe_mt0 pe_gc)
local macro_rules | `(tactic| walk_at "sy1") => `(tactic| with_reducible first
  | refine r_seq ?_ | refine r_if ?_ | refine r_ret ?_ | refine r_retN ?_ | refine r_asg ?_ | refine r_drop ?_ | refine r_brk ?_ | refine r_cont ?_ | refine r_fld ?_ | refine r_dput ?_ | refine r_for ?_ | refine r_next ?_
  | refine g_name ?_ | refine g_tup ?_ | refine g_unl ?_ | refine g_cons ?_ | refine g_nil ?_
  | refine t_test ?_ | refine t_B ?_ | refine t_not ?_ | refine t_and ?_ | refine t_or ?_ | refine t_yes ?_
  | refine e_var rfl ?_ | refine e_int ?_ | refine e_str ?_ | refine e_bl ?_ | refine e_non ?_ | refine e_ref ?_ | refine e_op ?_ | refine e_un ?_ | refine e_andV ?_ | refine e_orV ?_ | refine e_notV ?_ | refine e_if ?_ | refine e_isN ?_ | refine e_notN ?_
  | refine e_tup ?_ | refine e_fld ?_ | refine e_call0 ?_ | refine e_meth0 ?_ | refine e_cb ?_ | refine e_bm ?_ | refine e_dget ?_ | refine e_dget1 ?_ | refine e_din ?_ | refine e_dnotin ?_ | refine e_chain ?_ | refine e_fcall ?_ | refine e_sm ?_
  | refine a_nil ?_ | refine a_cons ?_ | refine i_list ?_ | refine i_tup ?_ | refine i_seq ?_ | refine i_rng1 ?_ | refine i_str ?_
  | refine s_none ?_ | refine s_some ?_ | refine e_slL ?_ | refine e_slT ?_
  | refine o_II ?_ | refine o_IB ?_)
local macro_rules | `(tactic| walk_at "sy") => `(tactic| repeat (first | walk_at "sy1" | refine ⟨_, rfl, ?_⟩ | refine ⟨(rfl : List.lookup _ _ = none), ?_⟩))
local macro_rules | `(tactic| walk_at "eqF") => `(tactic| (refine o_eq rfl rfl rfl ?_; walk_at "sy"; refine iF (by decide +kernel) ?_; walk_at "sy"))
local macro_rules | `(tactic| walk_at "eqT") => `(tactic| (refine o_eq rfl rfl rfl ?_; walk_at "sy"; refine iT (by decide +kernel) ?_; walk_at "sy"))
local macro_rules | `(tactic| walk_at "pureEnd") => `(tactic| (rintro d M' ⟨rfl, rfl⟩))
abbrev s__law_action : Stmt := top 59
theorem sc__law_action : FnScope ["_law_stream", "_law_w", "_law_name_here", "_law_most", "_law_many", "_law_free", "_law_need", "_law_k"] ["_law_stream", "_law_w", "_law_name_here", "_law_most"] (defScope s__law_action) := ⟨rfl, rfl, rfl, by decide +kernel, rfl, by decide +kernel, by decide +kernel⟩
abbrev Arow := Str × Tr × List Out
def dRow (a : Arow) : Dt := .lst [.s a.1, a.2.1.d, .lst (a.2.2.map fun o => .dK (kOut o))]
structure RowD (f pl r : List Str) (a : Arow) : Prop where
  dep : a.2.1.depth ≤ 3
  nml : a.2.1.names.length ≤ 2
  nms : ∀ x ∈ a.2.1.names, x ∈ f ++ pl
  len : a.2.2.length ≤ 2
  free : ∃ o ∈ a.2.2, OutD f pl r true o
  out : ∀ o ∈ a.2.2, ∃ b, OutD f pl r b o
abbrev S_row : FS := ⟨Addr × Addr × Nat × List Str × List Str × List Str × Str, fun q ds L M => let (p, sc, n, f, pl, r, nm) := q
    (∃ x, ds = [.adr p, x, .s nm, .i 2] ∧ WHas M x f pl r) ∧ Stm M p sc n ∧ n < 70000 ∧ (f ++ pl ++ r).length ≤ 8 ∧ ∀ x ∈ f ++ pl, NameOk x,
  fun q M d M' => let (p, sc, n, f, pl, r, nm) := q
    ∃ (a : Arow) (k : Nat), d = dRow a ∧ a.1 = nm ∧ RowD f pl r a ∧ k ≤ 50 ∧ Stm M' p sc (n + k) ∧ Frm p sc M M'⟩
section
variable {P : Program} {w : World} {K : PySem.W.Frag} {mg : Str → Option Value} {base : Heap}
theorem ok_row (T : Tx K mg) (D : Df K mg "_law_action" s__law_action) (cD : Cal P w K mg base 1 "_law_draw" S_draw.sp []) (cC : Cal P w K mg base 4 "_law_condition" (S_cond 1).sp []) (cS : Cal P w K mg base 1 "_law_seen" S_lseen.sp []) (cH : Cal P w K mg base 3 "_law_changes" S_chg.sp []) : Cal P w K mg base 5 "_law_action" S_row.sp [] := by
  refine cal_sym D sc__law_action (fun _ _ _ _ _ _ us hl => match us, hl with | [_, _, _, _], _ => rfl) (fun a ds L M h => by obtain ⟨⟨x, rfl, _⟩, _⟩ := h; rfl) (fun f cdv A outer s H E hr => ⟨_, pss_cons (ps_set (i := 4) sc__law_action.nd rfl (Or.inl rfl) (pe_op op_add pe_int (pe_c cD hr (by omega) rfl (pa_cons (pv 0) (pa_cons (pv 3) pa_nil))))) (pss_cons (ps_set (i := 5) sc__law_action.nd rfl (Or.inr rfl) (pe_c cD hr (by omega) rfl (pa_cons (pv 0) (pa_cons (pv 4) pa_nil)))) (pss_cons (ps_set (i := 6) sc__law_action.nd rfl (Or.inl rfl) (pe_c cC hr (by omega) rfl (pa_cons (pv 0) (pa_cons (pe_c cS hr (by omega) rfl (pa_cons (pv 1) pa_nil)) (pa_cons pe_int pa_nil))))) (pss_one (ps_ret (pe_lst (pa_cons (pv 2) (pa_cons (pv 6) (pa_cons (pe_lc (own := [("_law_k", 7)]) rfl sc__law_action.nd (pi_range1 (by rfl) T.f_range (pa_cons (pv 4) pa_nil)) (blkOk_by (own := [("_law_k", 7)]) (N := ["_law_stream", "_law_w", "_law_name_here", "_law_most", "_law_many", "_law_free", "_law_need", "_law_k"]) (sc := defScope s__law_action) (by decide +kernel)) (fun _ _ _ _ _ => (pg_name (i := 7) sc__law_action.nd rfl (Or.inl rfl))) (fun _ _ _ _ _ => pts_nil) (fun _ _ _ _ _ => (pe_c cH hr (by omega) rfl (pa_cons (pv 0) (pa_cons (pv 1) (pa_cons (pe_cmpR op_eq (pv 7) (pv 5) (nomark _)) pa_nil)))))) pa_nil)))))))), fun (p, sc, n, f, pl, r, nm) ds L M h => ?_⟩)
  obtain ⟨⟨x, rfl, hw⟩, hS, hn, hl, hx⟩ := h
  have hl' : f.length + pl.length + r.length ≤ 8 := by
    rw [List.length_append, List.length_append] at hl
    exact hl
  walk_at "sy"
  refine ⟨(p, sc, n, 2), ⟨rfl, hS, by show n < 100000; omega, by show 0 < 2; omega, by show 2 ≤ 1000; omega⟩, ?_⟩
  rintro d1 M1 ⟨k1, hk1, rfl, hS1, hF1⟩
  have hk1 : k1 < 2 := hk1
  have hw1 := hw.frm hS hF1
  have em : (1 : Int) + (k1 : Int) = ((k1 + 1 : Nat) : Int) := by omega
  walk_at "sy"
  rw [em]
  walk_at "sy"
  refine ⟨(p, sc, n + 1, k1 + 1), ⟨rfl, hS1, by show n + 1 < 100000; omega, by show 0 < k1 + 1; omega, by show k1 + 1 ≤ 1000; omega⟩, ?_⟩
  rintro d2 M2 ⟨fr, hfr, rfl, hS2, hF2⟩
  have hfr : fr < k1 + 1 := hfr
  have hw2 := hw1.frm hS1 hF2
  walk_at "sy"
  refine ⟨(f, pl, r), ⟨⟨x, rfl, hw2⟩, by show f.length + pl.length ≤ 100; omega⟩, ?_⟩
  rintro d3 M3 ⟨rfl, rfl⟩
  walk_at "sy"
  refine ⟨(p, sc, n + 1 + 1, f ++ pl), ⟨rfl, hS2, by omega, by rw [List.length_append]; omega, hx, by omega⟩, ?_⟩
  rintro d4 M4 ⟨t, k4, rfl, g1, g2, g3, g4, g5, g6⟩
  have hw4 := hw2.frm hS2 g6
  walk_at "sy"
  refine e_lst ?_
  walk_at "sy"
  refine e_frz (e_lc (wo_name (by decide)) ?_)
  walk_at "sy"
  refine ⟨by omega, by omega, fun D hD => ?_⟩
  have hDp := g5.ne hD
  have hxD := hw4.ne hD
  have e2 : (((k1 + 1 : Nat) : Int)).toNat = k1 + 1 := by omega
  have e3 : (rngD (k1 + 1)).length = k1 + 1 := by unfold rngD; simp
  rw [e2]
  refine ⟨fun i M' => ∃ (outs : List Out) (k : Nat), M' D = some (.lst (outs.map fun o => .dK (kOut o))) ∧ outs.length = i ∧ (∀ o ∈ outs, ∃ b, OutD f pl r b o) ∧ (fr < i → ∃ o ∈ outs, OutD f pl r true o) ∧ k ≤ 16 * i ∧ Stm M' p sc (n + 1 + 1 + k4 + k) ∧ WHas M' x f pl r ∧ ∀ b, b ≠ p → b ≠ sc → b ≠ D → M' b = M4 b,
    ⟨[], 0, mset_same, rfl, (fun o h => nomatch h), fun h => absurd h (Nat.not_lt_zero _), by omega, g5.new hD, hw4.mset hxD, fun b h1 h2 h3 => mset_ne h3⟩, ?_, ?_⟩
  · rintro i d M' hd ⟨outs, k, q1, q2, q3, q4, q5, q6, q7, q8⟩
    have hi : i < k1 + 1 := by
      have := (List.getElem?_eq_some_iff.mp hd).1
      omega
    have hdi : d = .i ((i : Nat) : Int) := by
      unfold rngD at hd
      rw [List.getElem?_map, List.getElem?_range hi] at hd
      cases hd
      rfl
    subst hdi
    walk_at "sy"
    refine iT rfl ?_
    walk_at "sy"
    refine o_eq rfl rfl rfl ?_
    walk_at "sy"
    refine ⟨(p, sc, n + 1 + 1 + k4 + k, f, pl, r, decide (i = fr)), ⟨⟨x, ?_, q7⟩, q6, by omega, hl⟩, ?_⟩
    · have e : decide (V.int (i : Int) = V.int (fr : Int)) = decide (i = fr) := decide_eq_decide.mpr ⟨fun z => by have := V.int.inj z; omega, fun z => by rw [z]⟩
      rw [← e]
    rintro d5 M5 ⟨o, j, rfl, b1, b2, b3, b4⟩
    refine ⟨_, by rw [b4 D hDp.1 hDp.2]; exact q1, by simp; omega, outs ++ [o], k + j, by rw [mset_same]; simp, by simp [q2], fun o' ho' => ?_, fun h => ?_, by omega, ?_, (q7.frm q6 b4).mset hxD, fun b h1 h2 h3 => ?_⟩
    · rcases List.mem_append.mp ho' with h | h
      · exact q3 o' h
      · rw [List.mem_singleton] at h
        rw [h]
        exact ⟨_, b1⟩
    · by_cases h' : fr < i
      · obtain ⟨o', h1, h2⟩ := q4 h'
        exact ⟨o', List.mem_append_left _ h1, h2⟩
      · have : i = fr := by omega
        refine ⟨o, List.mem_append_right _ (List.mem_singleton.mpr rfl), ?_⟩
        rw [← decide_eq_true this]
        exact b1
    · rw [← Nat.add_assoc]
      exact b3.mset hDp.1 hDp.2
    · rw [mset_ne h3, b4 b h1 h2]
      exact q8 b h1 h2 h3
  · rintro M' ⟨outs, k, q1, q2, q3, q4, q5, q6, q7, q8⟩
    rw [e3] at q2 q4 q5
    refine ⟨D, _, rfl, q1, ?_⟩
    walk_at "sy"
    refine ⟨by simp, (nm, t, outs), 1 + 1 + k4 + k, rfl, rfl, ⟨g1, g2, g3, by show outs.length ≤ 2; omega, q4 hfr, q3⟩, by omega, ?_, fun b h1 h2 => ?_⟩
    · have e : n + (1 + 1 + k4 + k) = n + 1 + 1 + k4 + k := by omega
      rw [e]
      exact q6.mdel hDp.1 hDp.2
    · rw [← hF1 b h1 h2, ← hF2 b h1 h2, ← g6 b h1 h2]
      by_cases g : b = D
      · subst g
        rw [hD]
        simp [mdel]
      · rw [mdel_ne g]
        exact q8 b h1 h2 g
end
end K85
set_option maxRecDepth 100000
set_option maxHeartbeats 1000000
/-! dict displays with text keys; a list put into a dict for good -/
namespace K85
open PySem L2
section
variable {L : Lk} {Γ : Gm} {M M' : Mm} {P : Dt → Mm → Prop} {PP : List (Str × Dt) → Mm → Prop}
def EvP (L : Lk) (Γ : Gm) (M : Mm) (trs : List (TE × TE)) (P : List (Str × Dt) → Mm → Prop) : Prop := ∀ σ H0 H (Q : List (V × V) → Hp → Prop), SV L M H0 H → SG Γ σ H0 →
  (∀ kvs ws M' H0' H', Same H0 H0' → SV L M' H0' H' → RepK H0' kvs ws → P kvs M' → Q (ws.map fun kv => (kV kv.1, kv.2)) H') → tPairs trs σ H Q
theorem p_nil (k : PP [] M) : EvP L Γ M [] PP := fun σ H0 H Q s g q => q [] [] M H0 H (Same.refl _) s (by unfold RepK; rfl) k
theorem p_cons {x : Str} {tv : TE} {trs : List (TE × TE)} (h : Ev L Γ M tv fun y M1 => EvP L Γ M1 trs fun kvs M2 => PP ((x, y) :: kvs) M2) : EvP L Γ M ((tC (.str x), tv) :: trs) PP := fun σ H0 H Q s g q =>
  h σ H0 H _ s g fun v y M1 H1 H1' e1 s1 r1 p => p σ H1 H1' _ s1 (g.up e1) fun kvs ws M2 H2 H2' e2 s2 r2 p2 =>
    q ((x, y) :: kvs) ((.inr x, v) :: ws) M2 H2 H2' (e1.trans e2) s2 (by unfold RepK; exact ⟨v, ws, rfl, r1.up e2, r2⟩) p2
def mergeA (acc more : List (Str × Dt)) : List (Str × Dt) := more.foldl (fun acc kv => putA acc kv.1 kv.2) acc
theorem repK_merge {H : Hp} {more : List (Str × Dt)} {rs : List (Key × V)} {acc : List (Str × Dt)} {ws : List (Key × V)} (h : RepK H more rs) (k : RepK H acc ws) : RepK H (mergeA acc more) (mergeK ws rs) := rep_merge h k
theorem e_disp {trs : List (TE × TE)} (h : ∀ p, M p = none → EvP L Γ (mset M p (.dK [])) trs fun kvs M1 => M1 p = some (.dK []) ∧ kvs.length ≤ 15 ∧ P (.adr p) (mset M1 p (.dK (mergeA [] kvs)))) : Ev L Γ M (tDisp trs) P := fun σ H0 H Q s g q p hp => by
  refine h p (s.freshM hp) σ H0 _ _ (s.newM (d := .dK []) (u := .dK []) hp ⟨[], rfl, by unfold RepK; rfl⟩) g fun kvs ws M1 H1 H1' e1 s1 r1 p1 => ?_
  obtain ⟨p2, p3, p4⟩ := p1
  obtain ⟨h0, u, hu, ws0, rfl, hr⟩ := s1.own p _ p2
  unfold RepK at hr
  subst hr
  refine ⟨hu, ws, rfl, by rw [repK_len r1]; exact p3, ?_⟩
  exact q _ (.adr p) _ H1 _ e1 (s1.wr (d := .dK (mergeA [] kvs)) (u := .dK (mergeK [] ws)) p2 ⟨_, rfl, repK_merge r1 (by unfold RepK; rfl)⟩) (by unfold Rep; rfl) p4
theorem repK_reput {H : Hp} {k : Str} {d : Dt} {t : Addr} {bs : List (Str × Dt)} : ∀ {as : List (Str × Dt)} {ws : List (Key × V)}, Rep H d (.ref t) → RepK H (as ++ (k, .adr t) :: bs) ws → RepK H (as ++ (k, d) :: bs) ws
  | [], ws, r, h => by
    rw [List.nil_append] at h ⊢
    unfold RepK at h ⊢
    obtain ⟨x, y, rfl, h1, h2⟩ := h
    unfold Rep at h1
    subst h1
    exact ⟨_, _, rfl, r, h2⟩
  | (z, e) :: as, ws, r, h => by
    rw [List.cons_append] at h ⊢
    unfold RepK at h ⊢
    obtain ⟨x, y, rfl, h1, h2⟩ := h
    exact ⟨_, _, rfl, h1, repK_reput r h2⟩
theorem VwM.key {x t : Addr} {k : Str} {d : Dt} {as bs : List (Str × Dt)} (hx : M x = some (.dK (as ++ (k, .adr t) :: bs))) (ht : M t = some d) (hne : t ≠ x) : VwM L M (mset (mdel M t) x (.dK (as ++ (k, d) :: bs))) := fun H0 H s => by
  obtain ⟨H1, e1, s1, r1⟩ := s.frz ht
  refine ⟨H1, e1, s1.per, s1.lkd, fun b w e => ?_⟩
  by_cases hb : b = x
  · subst hb
    rw [mset_same] at e
    cases e
    obtain ⟨h0, u, hu, ws, rfl, hw⟩ := s1.own b (.dK (as ++ (k, .adr t) :: bs)) (by rw [mdel_ne (Ne.symm hne)]; exact hx)
    exact ⟨h0, _, hu, ws, rfl, repK_reput r1 hw⟩
  · rw [mset_ne hb] at e
    exact s1.own b w e
end
end K85
namespace K85
open PySem
/-! laws of won sets, no program in sight -/
section
variable {G G' : Gme}
/-- one game followed in another one: what is won stays won -/
theorem win_sim {φ : List Str → List Str} {R : Nat → Nat → Prop} (ho : ∀ s ∈ G.order, φ s ∈ G'.order) (hto : ∀ k t, G.tg k = some t → t ∈ G.order)
    (hc : ∀ s ∈ G.order, ∀ l, (s, l) ∈ G.choices → ∀ q ∈ l, ∃ l', (φ s, l') ∈ G'.choices ∧ ∃ q' ∈ l', ∀ k' ∈ q'.2, ∃ k ∈ q.2, R k k')
    (ht : ∀ k k', R k k' → ∀ t, G.tg k = some t → G'.tg k' = some (φ t)) (hk : ∀ k k', R k k' → ∀ c, c ∈ G.tk k → c ∈ G'.tk k') (ha : ∀ k k', R k k' → ∀ c, c ∈ G'.ad k' → c ∈ G.ad k) :
    ∀ (n : Nat) (good bad good' bad' : Nat → Prop) (cs cs' : List Str) (T0 : Sts), (∀ k k', R k k' → good k → good' k' ∨ (¬ bad' k' ∧ ∃ t, G'.tg k' = some t ∧ T0 t)) → (∀ k k', R k k' → bad' k' → bad k) → (∀ c ∈ cs, c ∈ cs') →
      (∀ t, T0 t → Win G' n good' bad' cs' t) → ∀ s ∈ G.order, Win G n good bad cs s → Win G' n good' bad' cs' (φ s) := by
  intro n
  induction n with
  | zero =>
    intro good bad good' bad' cs cs' T0 hg hb hcs h0 s hs h
    rw [win_iff]
    intro T c
    refine (win_iff.mp h) (fun s => s ∈ G.order → T (φ s)) ⟨fun s hs f _ => c.1 _ (ho s hs) ?_, fun m e => nomatch e⟩ hs
    obtain ⟨l, h1, q, h2, h3⟩ := f
    obtain ⟨l', h4, q', h5, h6⟩ := hc s hs l h1 q h2
    refine ⟨l', h4, q', h5, fun k' hk' => ?_⟩
    obtain ⟨k, hk1, hR⟩ := h6 k' hk'
    rcases h3 k hk1 with h | ⟨h, t, h7, h8⟩
    · rcases hg k k' hR h with h | ⟨h, t, h7, h8⟩
      · exact .inl h
      · exact .inr ⟨h, t, h7, (win_iff.mp (h0 t h8)) T c⟩
    · exact .inr ⟨fun z => h (hb k k' hR z), φ t, ht k k' hR t h7, h8 (hto k t h7)⟩
  | succ n ih =>
    intro good bad good' bad' cs cs' T0 hg hb hcs h0 s hs h
    rw [win_iff]
    intro T c
    refine (win_iff.mp h) (fun s => s ∈ G.order → T (φ s)) ⟨fun s hs f _ => c.1 _ (ho s hs) ?_, fun m e d hd X hX s hs _ => ?_⟩ hs
    · obtain ⟨l, h1, q, h2, h3⟩ := f
      obtain ⟨l', h4, q', h5, h6⟩ := hc s hs l h1 q h2
      refine ⟨l', h4, q', h5, fun k' hk' => ?_⟩
      obtain ⟨k, hk1, hR⟩ := h6 k' hk'
      rcases h3 k hk1 with h | ⟨h, t, h7, h8⟩
      · rcases hg k k' hR h with h | ⟨h, t, h7, h8⟩
        · exact .inl h
        · exact .inr ⟨h, t, h7, (win_iff.mp (h0 t h8)) T c⟩
      · exact .inr ⟨fun z => h (hb k k' hR z), φ t, ht k k' hR t h7, h8 (hto k t h7)⟩
    · cases e
      refine c.2 n rfl d (hcs d hd) (fun s' => ∃ s, X s ∧ s' = φ s) ?_ (φ s) ⟨s, hs, rfl⟩
      rintro _ ⟨s, hs, rfl⟩
      refine ⟨ho s (hX s hs).1, ih _ _ _ _ _ _ (fun _ => False) (fun k k' hR h => .inl ?_) (fun k k' hR h => ?_) (fun c' hc' => ?_) (fun _ h => h.elim) s (hX s hs).1 (hX s hs).2⟩
      · rcases h with h | ⟨h, t, h7, h8⟩
        · rcases hg k k' hR h with h | ⟨h, t, h7, h8⟩
          · exact .inl h
          · exact .inr ⟨h, t, h7, .inl ((win_iff.mp (h0 t h8)) T c)⟩
        · refine .inr ⟨fun z => h (hb k k' hR z), φ t, ht k k' hR t h7, ?_⟩
          rcases h8 with h8 | ⟨h8, h9, h10⟩
          · exact .inl (h8 (hto k t h7))
          · exact .inr ⟨hk k k' hR d h8, fun z => h9 (ha k k' hR d z), t, h10, rfl⟩
      · rcases h with h | h
        · exact .inl (hb k k' hR h)
        · exact .inr (ha k k' hR d h)
      · unfold oth at hc' ⊢
        rw [List.mem_filter] at hc' ⊢
        exact ⟨hcs c' hc'.1, hc'.2⟩
/-- a counterplay with levels: an edge that the opponent may choose -/
def Ply (G : Gme) (good bad : Nat → Prop) (cs : List Str) (Lo : Sts) (lv : Str → List Str → Nat) (s : List Str) (k : Nat) : Prop :=
  ¬ good k ∧ (bad k ∨ ∃ t, G.tg k = some t ∧ Lo t ∧ ∀ c ∈ cs, c ∈ G.ad k ∨ (c ∈ G.tk k ∧ lv c t < lv c s) ∨ (c ∉ G.tk k ∧ lv c t ≤ lv c s))
theorem win_ply (lv : Str → List Str → Nat) : ∀ (n : Nat) (good bad : Nat → Prop) (cs : List Str) (Lo : Sts), (∀ s, Lo s → ∀ l, (s, l) ∈ G.choices → ∀ q ∈ l, ∃ k ∈ q.2, Ply G good bad cs Lo lv s k) → ∀ s, Win G n good bad cs s → ¬ Lo s := by
  intro n
  induction n with
  | zero =>
    intro good bad cs Lo hp s h
    refine (win_iff.mp h) (fun s => ¬ Lo s) ⟨fun s hs f hL => ?_, fun m e => nomatch e⟩
    obtain ⟨l, h1, q, h2, h3⟩ := f
    obtain ⟨k, hk, h4, h5⟩ := hp s hL l h1 q h2
    rcases h3 k hk with h | ⟨h, t, h6, h7⟩
    · exact h4 h
    · rcases h5 with h5 | ⟨t', h8, h9, _⟩
      · exact h h5
      · rw [h6] at h8
        cases h8
        exact h7 h9
  | succ n ih =>
    intro good bad cs Lo hp s h
    refine (win_iff.mp h) (fun s => ¬ Lo s) ⟨fun s hs f hL => ?_, fun m e c hc X hX s hs hL => ?_⟩
    · obtain ⟨l, h1, q, h2, h3⟩ := f
      obtain ⟨k, hk, h4, h5⟩ := hp s hL l h1 q h2
      rcases h3 k hk with h | ⟨h, t, h6, h7⟩
      · exact h4 h
      · rcases h5 with h5 | ⟨t', h8, h9, _⟩
        · exact h h5
        · rw [h6] at h8
          cases h8
          exact h7 h9
    · cases e
      have key : ∀ j s, X s → Lo s → lv c s = j → False := by
        intro j
        induction j using Nat.strongRecOn with
        | ind j ihj =>
          intro s hs hL hj
          refine ih _ _ _ (fun t => Lo t ∧ lv c t ≤ j) ?_ s (hX s hs).2 ⟨hL, by omega⟩
          rintro s' ⟨hL', hl'⟩ l h1 q h2
          obtain ⟨k, hk, h4, h5⟩ := hp s' hL' l h1 q h2
          refine ⟨k, hk, ?_, ?_⟩
          · rintro (h | ⟨h, t, h6, h7⟩)
            · exact h4 h
            · rcases h5 with h5 | ⟨t', h8, h9, h10⟩
              · exact h h5
              · rw [h6] at h8
                cases h8
                rcases h7 with h7 | ⟨h7, h11, h12⟩
                · exact h7 h9
                · rcases h10 c hc with h | ⟨_, h⟩ | ⟨h, _⟩
                  · exact h11 h
                  · exact ihj (lv c t) (by omega) t h12 h9 rfl
                  · exact h h7
          · rcases h5 with h5 | ⟨t', h8, h9, h10⟩
            · exact .inl (.inl h5)
            · by_cases had : c ∈ G.ad k
              · exact .inl (.inr had)
              · refine .inr ⟨t', h8, ⟨h9, ?_⟩, fun c' hc' => h10 c' (List.mem_filter.mp hc').1⟩
                rcases h10 c hc with h | ⟨_, h⟩ | ⟨_, h⟩
                · exact absurd h had
                · omega
                · omega
      exact key _ s hs hL rfl
/-- the falling sets of one counter -/
def Ins (G : Gme) (n : Nat) (good bad : Nat → Prop) (c : Str) (T : Sts) : Nat → Sts
  | 0 => fun s => s ∈ G.order
  | j + 1 => fun s => s ∈ G.order ∧ Win G n (Btr G good bad c T (Ins G n good bad c T j)) (Wrs G bad c) (oth [c] c) s
theorem ins_anti {n : Nat} {good bad : Nat → Prop} {c : Str} {T : Sts} : ∀ j s, Ins G n good bad c T (j + 1) s → Ins G n good bad c T j s
  | 0, s, h => h.1
  | j + 1, s, h => ⟨h.1, win_mono (Btr.mono (fun _ h => h) (fun _ h => h) (fun _ h => h) (ins_anti j)) (fun _ h => h) s h.2⟩
theorem ins_le {n : Nat} {good bad : Nat → Prop} {c : Str} {T : Sts} {j : Nat} {s : List Str} : ∀ {i}, j ≤ i → Ins G n good bad c T i s → Ins G n good bad c T j s := by
  intro i hij h
  induction hij with
  | refl => exact h
  | step _ ih => exact ih (ins_anti _ s h)
theorem ins_end {n : Nat} {good bad : Nat → Prop} {c : Str} {T : Sts} : ∀ l : List (List Str), ∃ m, ∀ s ∈ l, Ins G n good bad c T m s → ∀ j, Ins G n good bad c T j s
  | [] => ⟨0, fun s h => by simp at h⟩
  | s :: l => by
    obtain ⟨m, hm⟩ := ins_end (n := n) (good := good) (bad := bad) (c := c) (T := T) l
    by_cases h : ∀ j, Ins G n good bad c T j s
    · refine ⟨m, fun s' hs' h' => ?_⟩
      rcases List.mem_cons.mp hs' with rfl | hs'
      · exact h
      · exact hm s' hs' h'
    · obtain ⟨j, hj⟩ := Classical.not_forall.mp h
      refine ⟨m + j, fun s' hs' h' => ?_⟩
      rcases List.mem_cons.mp hs' with rfl | hs'
      · exact absurd (ins_le (by omega) h') hj
      · exact hm s' hs' (ins_le (by omega) h')
theorem least_of {p : Nat → Prop} (h : ∃ j, p j) : ∃ j, p j ∧ ∀ i, i < j → ¬ p i := by
  obtain ⟨j, hj⟩ := h
  induction j using Nat.strongRecOn with
  | ind j ih =>
    by_cases h : ∃ i, i < j ∧ p i
    · obtain ⟨i, h1, h2⟩ := h
      exact ih i h1 h2
    · exact ⟨j, hj, fun i hi hp => h ⟨i, hi, hp⟩⟩
/-- what is lost with one counter has levels -/
theorem lost_lv {n : Nat} {good bad : Nat → Prop} {c : Str} (hb : ∀ k, ¬ bad k) (hto : ∀ k t, G.tg k = some t → t ∈ G.order) (ho : ∀ p ∈ G.choices, p.1 ∈ G.order) (hg : ∀ p ∈ G.choices, ∀ q ∈ p.2, ∀ k ∈ q.2, ¬ good k → ∃ t, G.tg k = some t) :
    ∃ lv : List Str → Nat, ∀ s, s ∈ G.order → ¬ Win G (n + 1) good bad [c] s → ∀ l, (s, l) ∈ G.choices → ∀ q ∈ l, ∃ k ∈ q.2, ¬ good k ∧ ∃ t, G.tg k = some t ∧ ¬ Win G (n + 1) good bad [c] t ∧ (c ∈ G.ad k ∨ (c ∈ G.tk k ∧ lv t < lv s) ∨ (c ∉ G.tk k ∧ lv t ≤ lv s)) := by
  let T : Sts := Win G (n + 1) good bad [c]
  let I := Ins G n good bad c T
  obtain ⟨m, hm⟩ := ins_end (n := n) (good := good) (bad := bad) (c := c) (T := T) G.order
  have hX : ∀ s, I m s → T s := win_clo.2 n rfl c (List.mem_singleton.mpr rfl) (I m) fun s hs => by
    have h0 : s ∈ G.order := ins_le (Nat.zero_le m) hs
    exact ⟨h0, (hm s h0 hs (m + 1)).2⟩
  have hout : ∀ s, s ∈ G.order → ¬ T s → ∃ j, ¬ I (j + 1) s ∧ ∀ i, i < j → I (i + 1) s := fun s hs h => by
    have h1 : ∃ j, ¬ I (j + 1) s := ⟨m, fun z => h (hX s (ins_anti m s z))⟩
    obtain ⟨j, h2, h3⟩ := least_of h1
    exact ⟨j, h2, fun i hi => Classical.not_not.mp (h3 i hi)⟩
  have hall : ∀ s, ∃ j, s ∈ G.order → ¬ T s → ¬ I (j + 1) s ∧ ∀ i, i < j → I (i + 1) s := fun s => by
    by_cases h1 : s ∈ G.order
    · by_cases h2 : T s
      · exact ⟨0, fun _ z => absurd h2 z⟩
      · obtain ⟨j, h3⟩ := hout s h1 h2
        exact ⟨j, fun _ _ => h3⟩
    · exact ⟨0, fun z => absurd z h1⟩
  let lv : List Str → Nat := fun s => (hall s).choose
  have hlv : ∀ s, s ∈ G.order → ¬ T s → ¬ I (lv s + 1) s ∧ ∀ i, i < lv s → I (i + 1) s := fun s => (hall s).choose_spec
  have hle : ∀ s j, s ∈ G.order → ¬ T s → ¬ I (j + 1) s → lv s ≤ j := fun s j h1 h2 h3 => Classical.byContradiction fun h => h3 ((hlv s h1 h2).2 j (by omega))
  refine ⟨lv, fun s hs h l hl q hq => ?_⟩
  have h1 := (hlv s hs h).1
  have h2 : ¬ Frc G (Btr G good bad c T (I (lv s))) (Wrs G bad c) (I (lv s + 1)) s := fun f => h1 ⟨hs, win_clo.1 s hs (f.mono (fun _ h => h) (fun _ h => h) fun t ht => ht.2)⟩
  have h3 : ¬ ∀ k ∈ q.2, OkE G (Btr G good bad c T (I (lv s))) (Wrs G bad c) (I (lv s + 1)) k := fun f => h2 ⟨l, hl, q, hq, f⟩
  obtain ⟨k, h4⟩ := Classical.not_forall.mp h3
  obtain ⟨hk, h5⟩ := Classical.not_imp.mp h4
  have hng : ¬ good k := fun z => h5 (.inl (.inl z))
  obtain ⟨t, ht⟩ := hg _ hl q hq k hk hng
  have hT : ¬ T t := fun z => h5 (.inl (.inr ⟨hb k, t, ht, .inl z⟩))
  refine ⟨k, hk, hng, t, ht, hT, ?_⟩
  have hto' := hto k t ht
  by_cases had : c ∈ G.ad k
  · exact .inl had
  · refine .inr ?_
    by_cases htk : c ∈ G.tk k
    · refine .inl ⟨htk, ?_⟩
      have h6 : ¬ I (lv s) t := fun z => h5 (.inl (.inr ⟨hb k, t, ht, .inr ⟨htk, had, z⟩⟩))
      cases e : lv s with
      | zero => rw [e] at h6; exact absurd hto' h6
      | succ j =>
        rw [e] at h6
        have := hle t j hto' hT h6
        omega
    · refine .inr ⟨htk, ?_⟩
      have h6 : ¬ I (lv s + 1) t := fun z => h5 (.inr ⟨fun w => w.elim (hb k) had, t, ht, z⟩)
      exact hle t (lv s) hto' hT h6
end
end K85
/-! plain law -/
namespace K85
open PySem
/-! joined worlds: won exactly if the parts are won; no program in sight -/
theorem Out.get_mem {o : Out} {n : Str} {c : Ch} (h : o.get n = some c) : (n, c) ∈ o := by
  unfold Out.get at h
  obtain ⟨p, h1, h2⟩ := Option.map_eq_some_iff.mp h
  have h3 := List.find?_some h1
  have h4 := List.mem_of_find?_eq_some h1
  rw [decide_eq_true_eq] at h3
  rw [← h2, ← h3]
  exact h4
theorem tget_nd {t : List (Str × Act)} (nd : (t.map (·.1)).Nodup) {p : Str × Act} (h : p ∈ t) : tget t p.1 = some p.2 := tget_at nd h
theorem holds_congr {s t : List Str} : ∀ {g : Tr}, (∀ x ∈ g.names, (x ∈ s ↔ x ∈ t)) → g.holds s = g.holds t
  | .is x, h => by
    unfold Tr.holds
    exact decide_eq_decide.mpr (h x (by simp [Tr.names]))
  | .nt g, h => by
    unfold Tr.holds
    rw [holds_congr (g := g) h]
  | .an a b, h => by
    unfold Tr.holds
    rw [holds_congr (g := a) fun x hx => h x (List.mem_append_left _ hx), holds_congr (g := b) fun x hx => h x (List.mem_append_right _ hx)]
  | .or a b, h => by
    unfold Tr.holds
    rw [holds_congr (g := a) fun x hx => h x (List.mem_append_left _ hx), holds_congr (g := b) fun x hx => h x (List.mem_append_right _ hx)]
  | .alw, _ => rfl
  | .nev, _ => rfl
/-- the part of a state that belongs to a world -/
def part (v : Wd) (s : List Str) : List Str := v.seen.filter fun x => decide (x ∈ s)
/-- a state of the large world whose part in v is t, elsewhere as s -/
def mix (v J : Wd) (t s : List Str) : List Str := J.seen.filter fun x => if x ∈ v.seen then decide (x ∈ t) else decide (x ∈ s)
theorem part_in (v : Wd) (s : List Str) : part v s ∈ statesL v.seen := filter_mem _ _
theorem mix_in (v J : Wd) (t s : List Str) : mix v J t s ∈ statesL J.seen := filter_mem _ _
theorem mem_part {v : Wd} {s : List Str} {x : Str} : x ∈ part v s ↔ x ∈ v.seen ∧ x ∈ s := by
  unfold part
  rw [List.mem_filter, decide_eq_true_eq]
theorem mem_mix {v J : Wd} {t s : List Str} {x : Str} : x ∈ mix v J t s ↔ x ∈ J.seen ∧ ((x ∈ v.seen ∧ x ∈ t) ∨ (x ∉ v.seen ∧ x ∈ s)) := by
  unfold mix
  rw [List.mem_filter]
  by_cases h : x ∈ v.seen <;> simp [h]
/-- a world that stands inside of another one -/
structure Sub (v J : Wd) : Prop where
  f : ∀ x ∈ v.facts, x ∈ J.facts
  p : ∀ x ∈ v.piles, x ∈ J.piles
  r : ∀ x ∈ v.reserves, x ∈ J.reserves
  pf : ∀ P : Str → Bool, (∀ x, P x = true → x ∈ namesW v) → J.piles.filter P = v.piles.filter P
  t : ∀ q ∈ v.table, q ∈ J.table
section
variable {v u J : Wd} {s t : List Str} {g : Tr}
theorem st_ext (hJ : NmsOk J) {a b : List Str} (ha : a ∈ statesL J.seen) (hb : b ∈ statesL J.seen) (h : ∀ x ∈ J.seen, (x ∈ a ↔ x ∈ b)) : a = b := by
  rw [states_fix (seen_nd hJ) ha, states_fix (seen_nd hJ) hb]
  exact List.filter_congr fun x hx => decide_eq_decide.mpr (h x hx)
theorem Sub.seen (h : Sub v J) {x : Str} (hx : x ∈ v.seen) : x ∈ J.seen := by
  unfold Wd.seen at hx ⊢
  rcases List.mem_append.mp hx with hx | hx
  · exact List.mem_append_left _ (h.f x hx)
  · exact List.mem_append_right _ (h.p x hx)
theorem Sub.cnt (h : Sub v J) {x : Str} (hx : x ∈ v.counters) : x ∈ J.counters := by
  unfold Wd.counters at hx ⊢
  rcases List.mem_append.mp hx with hx | hx
  · exact List.mem_append_left _ (h.p x hx)
  · exact List.mem_append_right _ (h.r x hx)
theorem part_mix (hv : NmsOk v) (h : Sub v J) (ht : t ∈ statesL v.seen) : part v (mix v J t s) = t := by
  refine st_ext hv (part_in _ _) ht fun x hx => ?_
  rw [mem_part, mem_mix]
  exact ⟨fun ⟨_, _, h1⟩ => h1.elim (·.2) fun h2 => absurd hx h2.1, fun h1 => ⟨hx, h.seen hx, .inl ⟨hx, h1⟩⟩⟩
theorem mix_part (hJ : NmsOk J) (hs : s ∈ statesL J.seen) : mix v J (part v s) s = s := by
  refine st_ext hJ (mix_in _ _ _ _) hs fun x hx => ?_
  rw [mem_mix, mem_part]
  by_cases h1 : x ∈ v.seen <;> simp [h1, hx]
theorem mix_mix {t' : List Str} : mix v J t' (mix v J t s) = mix v J t' s := by
  unfold mix
  refine List.filter_congr fun x hx => ?_
  by_cases h1 : x ∈ v.seen
  · simp [h1]
  · simp only [h1, if_false]
    refine decide_eq_decide.mpr ?_
    rw [List.mem_filter]
    simp [h1, hx]
theorem part_other (hd : ∀ x ∈ u.seen, x ∉ v.seen) (hu : Sub u J) : part u (mix v J t s) = part u s := by
  unfold part
  refine List.filter_congr fun x hx => decide_eq_decide.mpr ?_
  rw [mem_mix]
  exact ⟨fun ⟨_, h1⟩ => h1.elim (fun h2 => absurd h2.1 (hd x hx)) (·.2), fun h1 => ⟨hu.seen hx, .inr ⟨hd x hx, h1⟩⟩⟩
theorem holds_part (hg : ∀ x ∈ g.names, x ∈ v.seen) : g.holds (part v s) = g.holds s := holds_congr fun x hx => by
  rw [mem_part]
  exact ⟨(·.2), fun h => ⟨hg x hx, h⟩⟩
theorem holds_mix (h : Sub v J) (hg : ∀ x ∈ g.names, x ∈ v.seen) : g.holds (mix v J t s) = g.holds t := holds_congr fun x hx => by
  rw [mem_mix]
  exact ⟨fun ⟨_, h1⟩ => h1.elim (·.2) fun h2 => absurd (hg x hx) h2.1, fun h1 => ⟨h.seen (hg x hx), .inl ⟨hg x hx, h1⟩⟩⟩
/-! an action of the small world in the large one -/
theorem get_in {a : Act} (ha : ActIn v a) {o : Out} (ho : o ∈ a.parts) {x : Str} {c : Ch} (h : o.get x = some c) : ChOk v x c := ha.ch o ho _ (Out.get_mem h)
theorem ch_names {x : Str} {c : Ch} (h : ChOk v x c) : x ∈ namesW v := by
  unfold namesW
  rcases h with ⟨h, _⟩ | ⟨h, _⟩ | ⟨h, _⟩ <;> simp [h]
theorem takes_sub (h : Sub v J) {a : Act} (ha : ActIn v a) {o : Out} (ho : o ∈ a.parts) : takes J o = takes v o := by
  unfold takes
  exact h.pf _ fun x hx => ch_names (get_in ha ho (of_decide_eq_true hx))
theorem fits_sub (h : Sub v J) {a : Act} (ha : ActIn v a) : fitsA J s a = fitsA v (part v s) a := by
  unfold fitsA
  rw [holds_part ha.need]
  congr 1
  rw [Bool.eq_iff_iff, List.all_eq_true, List.all_eq_true]
  refine forall_congr' fun o => forall_congr' fun ho => ?_
  unfold okOut
  rw [Bool.not_eq_true', Bool.not_eq_true', List.any_eq_false, List.any_eq_false]
  constructor
  · intro h1 p hp h2
    refine h1 p (h.p p hp) ?_
    rw [Bool.and_eq_true] at h2 ⊢
    refine ⟨h2.1, ?_⟩
    have h3 := h2.2
    rw [Bool.not_eq_true', decide_eq_false_iff_not, mem_part] at h3
    rw [Bool.not_eq_true', decide_eq_false_iff_not]
    exact fun z => h3 ⟨List.mem_append_right _ hp, z⟩
  · intro h1 p hp h2
    rw [Bool.and_eq_true] at h2
    have hp' : p ∈ v.piles := by
      have : p ∈ J.piles.filter fun p => decide (o.get p = some .take) := List.mem_filter.mpr ⟨hp, h2.1⟩
      have h3 := takes_sub h ha ho
      unfold takes at h3
      rw [h3] at this
      exact (List.mem_filter.mp this).1
    refine h1 p hp' ?_
    rw [Bool.and_eq_true]
    refine ⟨h2.1, ?_⟩
    have h3 := h2.2
    rw [Bool.not_eq_true', decide_eq_false_iff_not] at h3
    rw [Bool.not_eq_true', decide_eq_false_iff_not, mem_part]
    exact fun z => h3 z.2
theorem not_res (hJ : NmsOk J) {x : Str} (h1 : x ∈ J.seen) (h2 : x ∈ J.reserves) : False := by
  have := (List.nodup_append.mp hJ.nd).2.2
  exact this x h1 x h2 rfl
theorem names_seen (hJ : NmsOk J) (h : Sub v J) {x : Str} (h1 : x ∈ namesW v) (h2 : x ∈ J.seen) : x ∈ v.seen := by
  unfold namesW at h1
  rcases List.mem_append.mp h1 with h1 | h1
  · exact h1
  · exact (not_res hJ h2 (h.r x h1)).elim
theorem behind_sub (hJ : NmsOk J) (h : Sub v J) {a : Act} (ha : ActIn v a) {o : Out} (ho : o ∈ a.parts) {gn : List Str} : behindA J s o gn = mix v J (behindA v (part v s) o gn) s := by
  unfold behindA mix
  refine List.filter_congr fun x hx => ?_
  by_cases h1 : x ∈ v.seen
  · simp only [h1, if_true]
    have e : decide (x ∈ v.seen.filter (heldA o (part v s) gn)) = heldA o (part v s) gn x := by
      rw [Bool.eq_iff_iff, decide_eq_true_eq, List.mem_filter]
      exact ⟨(·.2), fun z => ⟨h1, z⟩⟩
    rw [e]
    unfold heldA
    have e2 : decide (x ∈ s) = decide (x ∈ part v s) := decide_eq_decide.mpr (by rw [mem_part]; exact ⟨fun z => ⟨h1, z⟩, (·.2)⟩)
    rw [e2]
  · simp only [h1, if_false]
    unfold heldA
    cases e : o.get x with
    | none => rfl
    | some c => exact absurd (names_seen hJ h (ch_names (get_in ha ho e)) hx) h1
theorem res_sub (hJ : NmsOk J) (h : Sub v J) {a : Act} (ha : ActIn v a) {r : Nat × List Str × List Str} : r ∈ resA J s a ↔ ∃ r' ∈ resA v (part v s) a, r = (r'.1, r'.2.1, mix v J r'.2.2 s) := by
  rw [resA_mem]
  constructor
  · rintro ⟨o, h1, h2, h3⟩
    have ho := List.mem_of_getElem? h1
    rw [takes_sub h ha ho] at h2
    refine ⟨(r.1, r.2.1, behindA v (part v s) o r.2.1), resA_mem.mpr ⟨o, h1, h2, rfl⟩, ?_⟩
    show r = (r.1, r.2.1, mix v J (behindA v (part v s) o r.2.1) s)
    rw [← behind_sub hJ h ha ho, ← h3]
  · rintro ⟨r', h1, rfl⟩
    obtain ⟨o, h1, h2, h3⟩ := resA_mem.mp h1
    have ho := List.mem_of_getElem? h1
    refine ⟨o, h1, by rw [takes_sub h ha ho]; exact h2, ?_⟩
    show mix v J r'.2.2 s = behindA J s o r'.2.1
    rw [behind_sub hJ h ha ho, ← h3]
theorem taken_sub (h : Sub v J) {a : Act} (ha : ActIn v a) {o : Out} (ho : o ∈ a.parts) (c : Str) : takenA o s c = takenA o (part v s) c := by
  unfold takenA
  congr 1
  by_cases e : o.get c = some .emp
  · rw [decide_eq_true e, Bool.true_and, Bool.true_and]
    refine decide_eq_decide.mpr ?_
    have : c ∈ v.seen := by
      rcases get_in ha ho e with ⟨_, h⟩ | ⟨h, _⟩ | ⟨_, h⟩
      · rcases h with h | h <;> cases h
      · exact List.mem_append_right _ h
      · rcases h with h | h <;> cases h
    rw [mem_part]
    exact ⟨fun z => ⟨this, z⟩, (·.2)⟩
  · rw [decide_eq_false e, Bool.false_and, Bool.false_and]
theorem cnt_of {a : Act} (ha : ActIn v a) {o : Out} (ho : o ∈ a.parts) {c : Str} {k : Ch} (hk : k ≠ .tru ∧ k ≠ .fls) (h : o.get c = some k) : c ∈ v.counters := by
  unfold Wd.counters
  rcases get_in ha ho h with ⟨_, h⟩ | ⟨h, _⟩ | ⟨h, _⟩
  · rcases h with h | h
    · exact absurd h hk.1
    · exact absurd h hk.2
  · exact List.mem_append_left _ h
  · exact List.mem_append_right _ h
theorem taken_cnt {a : Act} (ha : ActIn v a) {o : Out} (ho : o ∈ a.parts) {c : Str} (h : takenA o s c = true) : c ∈ v.counters := by
  unfold takenA at h
  rw [Bool.or_eq_true, Bool.and_eq_true, decide_eq_true_eq, decide_eq_true_eq] at h
  rcases h with h | ⟨h, _⟩
  · exact cnt_of ha ho (by decide) h
  · exact cnt_of ha ho (by decide) h
theorem added_cnt {a : Act} (ha : ActIn v a) {o : Out} (ho : o ∈ a.parts) {c : Str} (h : addedA o c = true) : c ∈ v.counters := cnt_of ha ho (by decide) (of_decide_eq_true h)
/-! the game by its edges -/
section
variable {G : Gme} {l : List (Str × List Nat)}
theorem at_choice (hv : WdOk v) (hG : GmOk v g G) (hl : (s, l) ∈ G.choices) {q : Str × List Nat} (hq : q ∈ l) :
    ∃ a, (q.1, a) ∈ v.table ∧ fitsA v s a = true ∧ (∀ k ∈ q.2, ∃ r ∈ resA v s a, G.edges[k]? = some (edgeOf v g s a r)) ∧ ∀ r ∈ resA v s a, ∃ k ∈ q.2, G.edges[k]? = some (edgeOf v g s a r) := by
  obtain ⟨a, h1, h2, h3⟩ := hG.built.good _ hl q hq
  refine ⟨a, tget_mem h1, h2, fun k hk => ?_, fun r hr => ?_⟩
  · have : G.edges[k]? ∈ (edgesA v g s a).map some := by rw [← h3]; exact List.mem_map.mpr ⟨k, hk, rfl⟩
    obtain ⟨e, he, e2⟩ := List.mem_map.mp this
    obtain ⟨r, hr, e3⟩ := List.mem_map.mp he
    exact ⟨r, hr, by rw [← e2, ← e3]⟩
  · have : some (edgeOf v g s a r) ∈ q.2.map fun k => G.edges[k]? := by
      rw [h3]
      exact List.mem_map.mpr ⟨_, List.mem_map.mpr ⟨r, hr, rfl⟩, rfl⟩
    obtain ⟨k, hk, e⟩ := List.mem_map.mp this
    exact ⟨k, hk, e⟩
theorem has_choice (hv : WdOk v) (hG : GmOk v g G) (hs : s ∈ G.order) {n : Str} {a : Act} (ha : (n, a) ∈ v.table) (hf : fitsA v s a = true) :
    ∃ l, (s, l) ∈ G.choices ∧ ∃ q ∈ l, ∀ k ∈ q.2, ∃ r ∈ resA v s a, G.edges[k]? = some (edgeOf v g s a r) := by
  rw [← hG.keys] at hs
  obtain ⟨⟨s', l⟩, hl, rfl⟩ := List.mem_map.mp hs
  refine ⟨l, hl, ?_⟩
  have h1 : n ∈ (acts v s').map (·.1) := List.mem_map.mpr ⟨(n, a), List.mem_filter.mpr ⟨ha, hf⟩, rfl⟩
  have h2 := hG.built.nm _ hl
  have h2 : l.map (·.1) = (acts v s').map (·.1) := h2
  rw [← h2] at h1
  obtain ⟨q, hq, rfl⟩ := List.mem_map.mp h1
  obtain ⟨a', h3, _, h4, _⟩ := at_choice hv hG hl hq
  have e1 := tget_at hv.nd ha
  have e2 := tget_at hv.nd h3
  rw [show tget v.table (q.1, a).1 = tget v.table (q.1, a').1 from rfl, e2] at e1
  cases e1
  exact ⟨q, hq, h4⟩
theorem goodL_iff {k : Nat} : gP (goodL G) k ↔ ∃ e, G.edges[k]? = some e ∧ e.tgt = none := by
  unfold gP goodL
  rw [List.getElem?_map]
  cases G.edges[k]? with
  | none => simp
  | some e => simp
theorem badL_no {k : Nat} : ¬ gP (badL G) k := by
  unfold gP badL
  rw [List.getElem?_map]
  cases G.edges[k]? with
  | none => simp
  | some e => simp
theorem tg_at {k : Nat} {e : Edge} (h : G.edges[k]? = some e) : G.tg k = e.tgt ∧ G.tk k = e.taken ∧ G.ad k = e.added := by
  unfold Gme.tg Gme.tk Gme.ad
  rw [h]
  exact ⟨rfl, rfl, rfl⟩
theorem tg_order (hG : GmOk v g G) : ∀ k t, G.tg k = some t → t ∈ G.order := fun k t h => by
  cases e : G.edges[k]? with
  | none =>
    unfold Gme.tg at h
    rw [e] at h
    cases h
  | some ed =>
    rw [(tg_at e).1] at h
    rw [hG.order]
    exact hG.built.tg ed (List.mem_of_getElem? e) t h
theorem mem_order : s ∈ orderL v g ↔ s ∈ statesL v.seen ∧ g.holds s = false := by
  unfold orderL
  rw [List.mem_filter, Bool.not_eq_true']
end
/-- won, or the goal itself -/
def WinS (v : Wd) (g : Tr) (G : Gme) (s : List Str) : Prop := g.holds s = true ∨ Win G 8 (gP (goodL G)) (gP (badL G)) G.tallies s
/-- what is won in the small world is won in the large one -/
theorem sim_side {G GJ : Gme} {gJ : Tr} {s0 : List Str} (hv : WdOk v) (hJ : WdOk J) (h : Sub v J) (hG : GmOk v g G) (hGJ : GmOk J gJ GJ) (hs0 : s0 ∈ statesL J.seen)
    (h1 : ∀ t ∈ statesL v.seen, g.holds t = false → gJ.holds (mix v J t s0) = false)
    (h2 : ∀ t ∈ statesL v.seen, g.holds t = true → WinS J gJ GJ (mix v J t s0)) (hw : WinS v g G (part v s0)) : WinS J gJ GJ s0 := by
  have hm := mix_part (v := v) hJ.nms hs0
  rcases hw with hw | hw
  · have := h2 _ (part_in v s0) hw
    rw [hm] at this
    exact this
  · have key := win_sim (G := G) (G' := GJ) (φ := fun t => mix v J t s0)
      (R := fun k k' => ∃ e e', G.edges[k]? = some e ∧ GJ.edges[k']? = some e' ∧ ∃ t ∈ statesL v.seen, e.tgt = (if g.holds t then none else some t) ∧ e'.tgt = (if gJ.holds (mix v J t s0) then none else some (mix v J t s0)) ∧ (∀ c, c ∈ e.taken → c ∈ e'.taken) ∧ ∀ c, c ∈ e'.added → c ∈ e.added)
      (fun s hs => by
        rw [hG.order, mem_order] at hs
        rw [hGJ.order, mem_order]
        exact ⟨mix_in _ _ _ _, h1 s hs.1 hs.2⟩) (tg_order hG)
      (fun s hs l hl q hq => by
        have hso := hs
        rw [hG.order, mem_order] at hs
        obtain ⟨a, ha, hf, _, hr⟩ := at_choice hv hG hl hq
        have hin := hv.act _ ha
        have hps : part v (mix v J s s0) = s := part_mix hv.nms h hs.1
        obtain ⟨l', hl', q', hq', hk'⟩ := has_choice (s := mix v J s s0) hJ hGJ (by rw [hGJ.order, mem_order]; exact ⟨mix_in _ _ _ _, h1 s hs.1 hs.2⟩) (h.t _ ha) (by rw [fits_sub h hin, hps]; exact hf)
        refine ⟨l', hl', q', hq', fun k' hk => ?_⟩
        obtain ⟨r, hr', e'⟩ := hk' k' hk
        obtain ⟨r', hr'', rfl⟩ := (res_sub hJ.nms h hin).mp hr'
        rw [hps] at hr''
        obtain ⟨k, hk2, e⟩ := hr r' hr''
        obtain ⟨o, ho1, _, ho3⟩ := resA_mem.mp hr''
        have ho := List.mem_of_getElem? ho1
        have eo : a.parts.getD r'.1 [] = o := by rw [List.getD_eq_getElem?_getD, ho1]; rfl
        refine ⟨k, hk2, _, _, e, e', r'.2.2, by rw [ho3]; exact filter_mem _ _, rfl, ?_, fun c hc => ?_, fun c hc => ?_⟩
        · show (if gJ.holds (mix v J r'.2.2 (mix v J s s0)) then none else some (mix v J r'.2.2 (mix v J s s0))) = _
          rw [mix_mix]
        · have hc : c ∈ v.counters.filter (takenA (a.parts.getD r'.1 []) s) := hc
          show c ∈ J.counters.filter (takenA (a.parts.getD r'.1 []) (mix v J s s0))
          rw [eo] at hc ⊢
          rw [List.mem_filter] at hc ⊢
          refine ⟨h.cnt hc.1, ?_⟩
          rw [taken_sub h hin ho, hps]
          exact hc.2
        · have hc : c ∈ J.counters.filter (addedA (a.parts.getD r'.1 [])) := hc
          show c ∈ v.counters.filter (addedA (a.parts.getD r'.1 []))
          rw [eo] at hc ⊢
          rw [List.mem_filter] at hc ⊢
          exact ⟨added_cnt hin ho hc.2, hc.2⟩)
      (fun k k' ⟨e, e', he, he', t, ht, e1, e2, _, _⟩ t' h3 => by
        rw [(tg_at he).1, e1] at h3
        split at h3
        · cases h3
        · rename_i hg
          cases h3
          rw [(tg_at he').1, e2, if_neg]
          rw [h1 t' ht (by simpa using hg)]
          exact Bool.false_ne_true)
      (fun k k' ⟨e, e', he, he', t, ht, e1, e2, e3, e4⟩ c hc => by
        rw [(tg_at he).2.1] at hc
        rw [(tg_at he').2.1]
        exact e3 c hc)
      (fun k k' ⟨e, e', he, he', t, ht, e1, e2, e3, e4⟩ c hc => by
        rw [(tg_at he').2.2] at hc
        rw [(tg_at he).2.2]
        exact e4 c hc)
      8 (gP (goodL G)) (gP (badL G)) (gP (goodL GJ)) (gP (badL GJ)) G.tallies GJ.tallies (Win GJ 8 (gP (goodL GJ)) (gP (badL GJ)) GJ.tallies)
      (fun k k' ⟨e, e', he, he', t, ht, e1, e2, e3, e4⟩ hg => by
        obtain ⟨e0, q1, q2⟩ := goodL_iff.mp hg
        rw [he] at q1
        cases q1
        rw [e1] at q2
        split at q2
        · rename_i hgt
          rcases h2 t ht hgt with z | z
          · exact .inl (goodL_iff.mpr ⟨e', he', by rw [e2, if_pos z]⟩)
          · refine .inr ⟨badL_no, mix v J t s0, ?_, z⟩
            have := win_in z
            rw [hGJ.order, mem_order] at this
            rw [(tg_at he').1, e2, if_neg (by rw [this.2]; exact Bool.false_ne_true)]
        · cases q2)
      (fun k k' _ hb => (badL_no hb).elim)
      (fun c hc => by
        rw [hG.tallies] at hc
        rw [hGJ.tallies]
        exact h.cnt hc)
      (fun _ h => h) (part v s0) (win_in hw) hw
    refine .inr ?_
    have key : Win GJ 8 (gP (goodL GJ)) (gP (badL GJ)) GJ.tallies (mix v J (part v s0) s0) := key
    rw [hm] at key
    exact key
/-! counterplays with levels -/
def Lvl (v : Wd) (Lo : Sts) (lv : Str → List Str → Nat) : Prop := ∀ s ∈ statesL v.seen, Lo s → ∀ p ∈ v.table, fitsA v s p.2 = true → ∃ r ∈ resA v s p.2, Lo r.2.2 ∧
  ∀ c ∈ v.counters, addedA (p.2.parts.getD r.1 []) c = true ∨ (takenA (p.2.parts.getD r.1 []) s c = true ∧ lv c r.2.2 < lv c s) ∨ (takenA (p.2.parts.getD r.1 []) s c = false ∧ lv c r.2.2 ≤ lv c s)
theorem lvl_lost {Lo : Sts} {lv : Str → List Str → Nat} {G : Gme} (hv : WdOk v) (hL : Lvl v Lo lv) (hg : ∀ s, Lo s → g.holds s = false) (hG : GmOk v g G) (hs : s ∈ statesL v.seen) (h : Lo s) : ¬ WinS v g G s := by
  rintro (h1 | h1)
  · rw [hg s h] at h1
    cases h1
  · refine win_ply lv 8 _ _ _ (fun s => s ∈ statesL v.seen ∧ Lo s) ?_ s h1 ⟨hs, h⟩
    rintro s ⟨hs, h⟩ l hl q hq
    obtain ⟨a, ha, hf, _, hr⟩ := at_choice hv hG hl hq
    obtain ⟨r, hr1, hr2, hr3⟩ := hL s hs h _ ha hf
    obtain ⟨k, hk, e⟩ := hr r hr1
    obtain ⟨o, ho1, _, ho3⟩ := resA_mem.mp hr1
    have e1 : (edgeOf v g s a r).tgt = some r.2.2 := by
      show (if g.holds r.2.2 then none else some r.2.2) = _
      rw [hg _ hr2]
      rfl
    refine ⟨k, hk, fun z => ?_, .inr ⟨r.2.2, by rw [(tg_at e).1, e1], ⟨by rw [ho3]; exact filter_mem _ _, hr2⟩, fun c hc => ?_⟩⟩
    · obtain ⟨e0, q1, q2⟩ := goodL_iff.mp z
      rw [e] at q1
      cases q1
      rw [e1] at q2
      cases q2
    · rw [hG.tallies] at hc
      rw [(tg_at e).2.1, (tg_at e).2.2]
      show c ∈ v.counters.filter (addedA (a.parts.getD r.1 [])) ∨ (c ∈ v.counters.filter (takenA (a.parts.getD r.1 []) s) ∧ _) ∨ (c ∉ v.counters.filter (takenA (a.parts.getD r.1 []) s) ∧ _)
      rw [List.mem_filter, List.mem_filter]
      rcases hr3 c hc with h | ⟨h, h'⟩ | ⟨h, h'⟩
      · exact .inl ⟨hc, h⟩
      · exact .inr (.inl ⟨⟨hc, h⟩, h'⟩)
      · refine .inr (.inr ⟨fun z => ?_, h'⟩)
        have z2 : takenA (a.parts.getD r.1 []) s c = true := z.2
        rw [h] at z2
        cases z2
theorem lost_lvl {G : Gme} {c : Str} (hv : WdOk v) (hc : v.counters = [c]) (hG : GmOk v g G) : ∃ lv, Lvl v (fun s => s ∈ statesL v.seen ∧ ¬ WinS v g G s) lv := by
  obtain ⟨lv, h⟩ := lost_lv (G := G) (n := 7) (good := gP (goodL G)) (bad := gP (badL G)) (c := c) (fun k => badL_no) (tg_order hG) (fun p hp => by
      rw [← hG.keys]
      exact List.mem_map.mpr ⟨p, hp, rfl⟩) (fun p hp q hq k hk hn => by
      obtain ⟨a, _, _, h1, _⟩ := at_choice (s := p.1) (l := p.2) hv hG hp hq
      obtain ⟨r, _, e⟩ := h1 k hk
      cases e2 : (edgeOf v g p.1 a r).tgt with
      | none => exact absurd (goodL_iff.mpr ⟨_, e, e2⟩) hn
      | some t => exact ⟨t, by rw [(tg_at e).1, e2]⟩)
  have hW : ∀ s, s ∈ statesL v.seen → ¬ WinS v g G s → s ∈ G.order ∧ ¬ Win G 8 (gP (goodL G)) (gP (badL G)) [c] s := fun s hs hn => by
    refine ⟨?_, fun z => hn (.inr (by rw [hG.tallies, hc]; exact z))⟩
    rw [hG.order, mem_order]
    exact ⟨hs, Bool.eq_false_iff.mpr fun z => hn (.inl z)⟩
  refine ⟨fun _ => lv, fun s hs ⟨_, hn⟩ p hp hf => ?_⟩
  obtain ⟨h1, h2⟩ := hW s hs hn
  obtain ⟨l, hl, q, hq, hk⟩ := has_choice (n := p.1) (a := p.2) hv hG h1 hp hf
  obtain ⟨k, hk1, hng, t, ht, hnt, hlv⟩ := h s h1 h2 l hl q hq
  obtain ⟨r, hr, e⟩ := hk k hk1
  obtain ⟨o, ho1, _, ho3⟩ := resA_mem.mp hr
  rw [(tg_at e).1] at ht
  have ht : (if g.holds r.2.2 then none else some r.2.2) = some t := ht
  rw [(tg_at e).2.1, (tg_at e).2.2] at hlv
  have hlv : c ∈ v.counters.filter (addedA (p.2.parts.getD r.1 [])) ∨ (c ∈ v.counters.filter (takenA (p.2.parts.getD r.1 []) s) ∧ lv t < lv s) ∨ (c ∉ v.counters.filter (takenA (p.2.parts.getD r.1 []) s) ∧ lv t ≤ lv s) := hlv
  split at ht
  · cases ht
  · rename_i hgt
    cases ht
    refine ⟨r, hr, ⟨by rw [ho3]; exact filter_mem _ _, ?_⟩, fun c' hc' => ?_⟩
    · rintro (z | z)
      · exact hgt z
      · rw [hG.tallies, hc] at z
        exact hnt z
    · have hcc : c ∈ v.counters := by rw [hc]; exact List.mem_singleton.mpr rfl
      rw [hc, List.mem_singleton] at hc'
      subst hc'
      rw [List.mem_filter, List.mem_filter] at hlv
      rcases hlv with z | ⟨z, z'⟩ | ⟨z, z'⟩
      · exact .inl z.2
      · exact .inr (.inl ⟨z.2, z'⟩)
      · exact .inr (.inr ⟨Bool.eq_false_iff.mpr fun w => z ⟨hcc, w⟩, z'⟩)
theorem subT_all : ∀ l : List Str, l ∈ subT l
  | [] => by simp [subT]
  | x :: r => by
    unfold subT
    exact List.mem_append_left _ (List.mem_append_right _ (List.mem_map.mpr ⟨r, subT_all r, rfl⟩))
/-- an opponent who only waits -/
theorem idle_lvl (hv : WdOk v) : ∃ lv, Lvl v (fun _ => True) lv := by
  refine ⟨fun c s => if c ∈ s then 1 else 0, fun s hs _ p hp hf => ?_⟩
  have hin := hv.act p hp
  obtain ⟨o, ho, hfr⟩ := hin.free
  obtain ⟨k, hk⟩ := List.mem_iff_getElem?.mp ho
  have ek : p.2.parts.getD k [] = o := by rw [List.getD_eq_getElem?_getD, hk]; rfl
  refine ⟨(k, takes v o, behindA v s o (takes v o)), resA_mem.mpr ⟨o, hk, subT_all _, rfl⟩, trivial, fun c hc => ?_⟩
  show addedA (p.2.parts.getD k []) c = true ∨ (takenA (p.2.parts.getD k []) s c = true ∧ (if c ∈ behindA v s o (takes v o) then 1 else 0) < (if c ∈ s then 1 else 0)) ∨ (takenA (p.2.parts.getD k []) s c = false ∧ (if c ∈ behindA v s o (takes v o) then 1 else 0) ≤ (if c ∈ s then 1 else 0))
  rw [ek]
  have hfit : ∀ p' ∈ v.piles, o.get p' = some .take → p' ∈ s := fun p' hp' h1 => by
    unfold fitsA at hf
    rw [Bool.and_eq_true, List.all_eq_true] at hf
    have h2 := hf.2 o ho
    unfold okOut at h2
    rw [Bool.not_eq_true', List.any_eq_false] at h2
    have h3 := h2 p' hp'
    rw [Bool.and_eq_true, not_and, Bool.not_eq_true', decide_eq_true_eq] at h3
    exact Classical.not_not.mp fun z => h3 h1 (decide_eq_false z)
  have hmem : c ∈ behindA v s o (takes v o) ↔ c ∈ v.seen ∧ heldA o s (takes v o) c = true := by unfold behindA; rw [List.mem_filter]
  have hres : c ∈ v.reserves → c ∉ v.seen := fun h1 h2 => not_res hv.nms h2 h1
  cases e : o.get c with
  | none =>
    refine .inr (.inr ⟨?_, ?_⟩)
    · unfold takenA
      rw [e]
      simp
    · have : c ∈ behindA v s o (takes v o) → c ∈ s := fun z => by
        have := (hmem.mp z).2
        unfold heldA at this
        rw [e] at this
        exact of_decide_eq_true this
      by_cases h1 : c ∈ behindA v s o (takes v o)
      · rw [if_pos h1, if_pos (this h1)]
        exact Nat.le_refl _
      · rw [if_neg h1]
        exact Nat.zero_le _
  | some k' =>
    rcases get_in hin ho e with ⟨hcf, _⟩ | ⟨hcp, hk'⟩ | ⟨hcr, hk'⟩
    · exfalso
      have hnd := hv.nms.nd
      unfold Wd.counters at hc
      rw [List.append_assoc, List.nodup_append] at hnd
      exact hnd.2.2 c hcf c hc rfl
    · rcases hk' with rfl | rfl | rfl
      · exact .inl (by unfold addedA; rw [e]; simp)
      · refine .inr (.inl ⟨by unfold takenA; rw [e]; simp, ?_⟩)
        rw [if_pos (hfit c hcp e), if_neg]
        · exact Nat.lt_succ_self 0
        · intro z
          have := (hmem.mp z).2
          unfold heldA at this
          rw [e] at this
          have h2 : c ∈ takes v o := List.mem_filter.mpr ⟨hcp, by rw [e]; simp⟩
          simp [h2] at this
      · have hn : c ∉ behindA v s o (takes v o) := fun z => by
          have := (hmem.mp z).2
          unfold heldA at this
          rw [e] at this
          simp at this
        rw [if_neg hn]
        by_cases h1 : c ∈ s
        · refine .inr (.inl ⟨by unfold takenA; rw [e]; simp [h1], ?_⟩)
          rw [if_pos h1]
          exact Nat.lt_succ_self 0
        · refine .inr (.inr ⟨by unfold takenA; rw [e]; simp [h1], Nat.zero_le _⟩)
    · rcases hk' with rfl | rfl
      · exact .inl (by unfold addedA; rw [e]; simp)
      · exfalso
        unfold tkr at hfr
        rw [List.any_eq_false] at hfr
        exact hfr c hcr (by rw [e]; simp)
end
/-! the joined world -/
structure Jn (v u : Wd) : Prop where
  l : WdOk v
  r : WdOk u
  j : WdOk (joinW v u)
  nd : (namesW v ++ namesW u).Nodup
section
variable {v u : Wd} {s : List Str} {g h : Tr}
theorem Jn.dis (j : Jn v u) {x : Str} (h1 : x ∈ namesW v) (h2 : x ∈ namesW u) : False := (List.nodup_append.mp j.nd).2.2 x h1 x h2 rfl
theorem seen_names {x : Str} (h : x ∈ v.seen) : x ∈ namesW v := List.mem_append_left _ h
theorem cnt_names {x : Str} (h : x ∈ v.counters) : x ∈ namesW v := by
  unfold Wd.counters at h
  unfold namesW
  rcases List.mem_append.mp h with h | h <;> simp [h]
theorem pile_names {x : Str} (h : x ∈ v.piles) : x ∈ namesW v := seen_names (List.mem_append_right _ h)
theorem filter_no {P : Str → Bool} {l : List Str} (h : ∀ x ∈ l, P x = false) : l.filter P = [] := List.filter_eq_nil_iff.mpr fun x hx => by rw [h x hx]; exact Bool.false_ne_true
theorem Jn.sl (j : Jn v u) : Sub v (joinW v u) where
  f := fun x hx => List.mem_append_left _ hx
  p := fun x hx => List.mem_append_left _ hx
  r := fun x hx => List.mem_append_left _ hx
  t := fun x hx => List.mem_append_left _ hx
  pf := fun P hP => by
    show (v.piles ++ u.piles).filter P = _
    rw [List.filter_append, filter_no (l := u.piles), List.append_nil]
    exact fun x hx => Bool.eq_false_iff.mpr fun z => j.dis (hP x z) (pile_names hx)
theorem Jn.sr (j : Jn v u) : Sub u (joinW v u) where
  f := fun x hx => List.mem_append_right _ hx
  p := fun x hx => List.mem_append_right _ hx
  r := fun x hx => List.mem_append_right _ hx
  t := fun x hx => List.mem_append_right _ hx
  pf := fun P hP => by
    show (v.piles ++ u.piles).filter P = _
    rw [List.filter_append, filter_no (l := v.piles), List.nil_append]
    exact fun x hx => Bool.eq_false_iff.mpr fun z => j.dis (pile_names hx) (hP x z)
theorem half_lvl {v u J : Wd} {Lo1 Lo2 : Sts} {lv1 lv : Str → List Str → Nat} (hv : WdOk v) (hJ : WdOk J) (sv : Sub v J) (su : Sub u J) (hd : ∀ x ∈ u.seen, x ∉ v.seen) (hL : Lvl v Lo1 lv1) (h1 : ∀ c ∈ v.counters, ∀ s, lv c s = lv1 c (part v s)) (h2 : ∀ c ∈ J.counters, c ∉ v.counters → ∀ s t, lv c (mix v J t s) = lv c s)
    (hs : s ∈ statesL J.seen) (hl1 : Lo1 (part v s)) (hl2 : Lo2 (part u s)) {p : Str × Act} (hp : p ∈ v.table) (hf : fitsA J s p.2 = true) : ∃ r ∈ resA J s p.2, (Lo1 (part v r.2.2) ∧ Lo2 (part u r.2.2)) ∧
      ∀ c ∈ J.counters, addedA (p.2.parts.getD r.1 []) c = true ∨ (takenA (p.2.parts.getD r.1 []) s c = true ∧ lv c r.2.2 < lv c s) ∨ (takenA (p.2.parts.getD r.1 []) s c = false ∧ lv c r.2.2 ≤ lv c s) := by
  have hin := hv.act p hp
  rw [fits_sub sv hin] at hf
  obtain ⟨r, hr, hlo, hc⟩ := hL (part v s) (part_in v s) hl1 p hp hf
  obtain ⟨o, ho1, _, ho3⟩ := resA_mem.mp hr
  have ho := List.mem_of_getElem? ho1
  have eo : p.2.parts.getD r.1 [] = o := by rw [List.getD_eq_getElem?_getD, ho1]; rfl
  have hst : r.2.2 ∈ statesL v.seen := by rw [ho3]; exact filter_mem _ _
  refine ⟨(r.1, r.2.1, mix v J r.2.2 s), (res_sub hJ.nms sv hin).mpr ⟨r, hr, rfl⟩, ⟨?_, ?_⟩, fun c hcJ => ?_⟩
  · show Lo1 (part v (mix v J r.2.2 s))
    rw [part_mix hv.nms sv hst]
    exact hlo
  · show Lo2 (part u (mix v J r.2.2 s))
    rw [part_other hd su]
    exact hl2
  · show addedA (p.2.parts.getD r.1 []) c = true ∨ (takenA (p.2.parts.getD r.1 []) s c = true ∧ lv c (mix v J r.2.2 s) < lv c s) ∨ (takenA (p.2.parts.getD r.1 []) s c = false ∧ lv c (mix v J r.2.2 s) ≤ lv c s)
    rw [eo]
    by_cases hcv : c ∈ v.counters
    · rw [taken_sub sv hin ho, h1 c hcv, h1 c hcv, part_mix hv.nms sv hst]
      have := hc c hcv
      rw [eo] at this
      exact this
    · refine .inr (.inr ⟨Bool.eq_false_iff.mpr fun z => hcv (taken_cnt hin ho z), ?_⟩)
      rw [h2 c hcJ hcv]
      exact Nat.le_refl _
theorem join_lvl (j : Jn v u) {Lo1 Lo2 : Sts} {lv1 lv2 : Str → List Str → Nat} (h1 : Lvl v Lo1 lv1) (h2 : Lvl u Lo2 lv2) : Lvl (joinW v u) (fun s => Lo1 (part v s) ∧ Lo2 (part u s)) (fun c s => if c ∈ v.counters then lv1 c (part v s) else lv2 c (part u s)) := by
  have hd1 : ∀ x ∈ u.seen, x ∉ v.seen := fun x hx hx' => j.dis (seen_names hx') (seen_names hx)
  have hd2 : ∀ x ∈ v.seen, x ∉ u.seen := fun x hx hx' => j.dis (seen_names hx) (seen_names hx')
  intro s hs ⟨hl1, hl2⟩ p hp hf
  rcases List.mem_append.mp (show p ∈ v.table ++ u.table from hp) with hp | hp
  · exact half_lvl (Lo2 := Lo2) (lv := fun c s => if c ∈ v.counters then lv1 c (part v s) else lv2 c (part u s)) j.l j.j j.sl j.sr hd1 h1 (fun c hc s => if_pos hc) (fun c hc hn s t => by
      show (if c ∈ v.counters then _ else _) = if c ∈ v.counters then _ else _
      rw [if_neg hn, if_neg hn, part_other hd1 j.sr]) hs hl1 hl2 hp hf
  · obtain ⟨r, a, ⟨b1, b2⟩, d⟩ := half_lvl (Lo2 := Lo1) (lv := fun c s => if c ∈ v.counters then lv1 c (part v s) else lv2 c (part u s)) j.r j.j j.sr j.sl hd2 h2 (fun c hc s => if_neg fun z => j.dis (cnt_names z) (cnt_names hc)) (fun c hc hn s t => by
      have : c ∈ v.counters := by
        have hc : c ∈ (v.piles ++ u.piles) ++ (v.reserves ++ u.reserves) := hc
        unfold Wd.counters at hn ⊢
        simp only [List.mem_append, not_or] at hc hn ⊢
        rcases hc with (hc | hc) | (hc | hc)
        · exact .inl hc
        · exact absurd hc hn.1
        · exact .inr hc
        · exact absurd hc hn.2
      show (if c ∈ v.counters then _ else _) = if c ∈ v.counters then _ else _
      rw [if_pos this, if_pos this, part_other hd2 j.sl]) hs hl2 hl1 hp hf
    exact ⟨r, a, ⟨b2, b1⟩, d⟩
variable {G G' GJ : Gme}
theorem both_iff (j : Jn v u) {c d : Str} (hc : v.counters = [c]) (hd : u.counters = [d]) (hg : ∀ x ∈ g.names, x ∈ v.seen) (hh : ∀ x ∈ h.names, x ∈ u.seen) (hG : GmOk v g G) (hG' : GmOk u h G') (hGJ : GmOk (joinW v u) (.an g h) GJ) (hs : s ∈ statesL (joinW v u).seen) :
    WinS (joinW v u) (.an g h) GJ s ↔ WinS v g G (part v s) ∧ WinS u h G' (part u s) := by
  have hd1 : ∀ x ∈ u.seen, x ∉ v.seen := fun x hx hx' => j.dis (seen_names hx') (seen_names hx)
  have hd2 : ∀ x ∈ v.seen, x ∉ u.seen := fun x hx hx' => j.dis (seen_names hx) (seen_names hx')
  have eg : ∀ s t, g.holds (mix u (joinW v u) t s) = g.holds s := fun s t => by rw [← holds_part hg, part_other hd2 j.sl, holds_part hg]
  have eh : ∀ s t, h.holds (mix v (joinW v u) t s) = h.holds s := fun s t => by rw [← holds_part hh, part_other hd1 j.sr, holds_part hh]
  have an : ∀ s, (Tr.an g h).holds s = (g.holds s && h.holds s) := fun s => rfl
  constructor
  · intro hw
    constructor
    · refine Classical.byContradiction fun hn => ?_
      obtain ⟨lv1, h1⟩ := lost_lvl j.l hc hG
      obtain ⟨lv2, h2⟩ := idle_lvl j.r
      refine lvl_lost j.j (join_lvl j h1 h2) (fun s hz => ?_) hGJ hs ⟨⟨part_in _ _, hn⟩, trivial⟩ hw
      have h3 := hz.1.2
      rw [an, Bool.and_eq_false_iff]
      refine .inl (Bool.eq_false_iff.mpr fun z => h3 (.inl ?_))
      rw [holds_part hg]
      exact z
    · refine Classical.byContradiction fun hn => ?_
      obtain ⟨lv1, h1⟩ := idle_lvl j.l
      obtain ⟨lv2, h2⟩ := lost_lvl j.r hd hG'
      refine lvl_lost j.j (join_lvl j h1 h2) (fun s hz => ?_) hGJ hs ⟨trivial, ⟨part_in _ _, hn⟩⟩ hw
      have h3 := hz.2.2
      rw [an, Bool.and_eq_false_iff]
      refine .inr (Bool.eq_false_iff.mpr fun z => h3 (.inl ?_))
      rw [holds_part hh]
      exact z
  · rintro ⟨h1, h2⟩
    have A : ∀ s ∈ statesL (joinW v u).seen, g.holds s = true → WinS u h G' (part u s) → WinS (joinW v u) (.an g h) GJ s := fun s hs hgs hw => by
      refine sim_side j.r j.j j.sr hG' hGJ hs (fun t ht h3 => ?_) (fun t ht h3 => .inl ?_) hw
      · rw [an, holds_mix j.sr hh, h3, Bool.and_false]
      · rw [an, holds_mix j.sr hh, h3, eg, hgs]
        rfl
    refine sim_side j.l j.j j.sl hG hGJ hs (fun t ht h3 => ?_) (fun t ht h3 => ?_) h1
    · rw [an, holds_mix j.sl hg, h3, Bool.false_and]
    · refine A _ (mix_in _ _ _ _) ?_ ?_
      · rw [holds_mix j.sl hg]
        exact h3
      · rw [part_other hd1 j.sr]
        exact h2
theorem either_iff (j : Jn v u) {c d : Str} (hc : v.counters = [c]) (hd : u.counters = [d]) (hg : ∀ x ∈ g.names, x ∈ v.seen) (hh : ∀ x ∈ h.names, x ∈ u.seen) (hG : GmOk v g G) (hG' : GmOk u h G') (hGJ : GmOk (joinW v u) (.or g h) GJ) (hs : s ∈ statesL (joinW v u).seen) :
    WinS (joinW v u) (.or g h) GJ s ↔ WinS v g G (part v s) ∨ WinS u h G' (part u s) := by
  have hd1 : ∀ x ∈ u.seen, x ∉ v.seen := fun x hx hx' => j.dis (seen_names hx') (seen_names hx)
  have hd2 : ∀ x ∈ v.seen, x ∉ u.seen := fun x hx hx' => j.dis (seen_names hx) (seen_names hx')
  have eg : ∀ s t, g.holds (mix u (joinW v u) t s) = g.holds s := fun s t => by rw [← holds_part hg, part_other hd2 j.sl, holds_part hg]
  have eh : ∀ s t, h.holds (mix v (joinW v u) t s) = h.holds s := fun s t => by rw [← holds_part hh, part_other hd1 j.sr, holds_part hh]
  have or : ∀ s, (Tr.or g h).holds s = (g.holds s || h.holds s) := fun s => rfl
  constructor
  · intro hw
    refine Classical.byContradiction fun hn => ?_
    rw [not_or] at hn
    obtain ⟨lv1, h1⟩ := lost_lvl j.l hc hG
    obtain ⟨lv2, h2⟩ := lost_lvl j.r hd hG'
    refine lvl_lost j.j (join_lvl j h1 h2) (fun s hz => ?_) hGJ hs ⟨⟨part_in _ _, hn.1⟩, ⟨part_in _ _, hn.2⟩⟩ hw
    have h3 := hz.1.2
    have h4 := hz.2.2
    rw [or, Bool.or_eq_false_iff]
    refine ⟨Bool.eq_false_iff.mpr fun z => h3 (.inl ?_), Bool.eq_false_iff.mpr fun z => h4 (.inl ?_)⟩
    · rw [holds_part hg]
      exact z
    · rw [holds_part hh]
      exact z
  · by_cases hgs : (Tr.or g h).holds s = true
    · exact fun _ => .inl hgs
    · rw [or, Bool.not_eq_true, Bool.or_eq_false_iff] at hgs
      rintro (h1 | h1)
      · refine sim_side j.l j.j j.sl hG hGJ hs (fun t ht h3 => ?_) (fun t ht h3 => .inl ?_) h1
        · rw [or, holds_mix j.sl hg, h3, eh, hgs.2]
          rfl
        · rw [or, holds_mix j.sl hg, h3]
          rfl
      · refine sim_side j.r j.j j.sr hG' hGJ hs (fun t ht h3 => ?_) (fun t ht h3 => .inl ?_) h1
        · rw [or, holds_mix j.sr hh, h3, eg, hgs.1]
          rfl
        · rw [or, holds_mix j.sr hh, h3, Bool.or_true]
end
end K85
set_option maxRecDepth 100000
set_option maxHeartbeats 4000000
/-! the law's halves -/
namespace K85
open PySem L2
open C8 (Cal Met Mak pe_c pe_mk pe_mt pe_mt0 pe_gc)
local macro_rules | `(tactic| walk_at "sy1") => `(tactic| with_reducible first
  | refine r_seq ?_ | refine r_if ?_ | refine r_ret ?_ | refine r_retN ?_ | refine r_asg ?_ | refine r_drop ?_ | refine r_brk ?_ | refine r_cont ?_ | refine r_fld ?_ | refine r_dput ?_ | refine r_for ?_ | refine r_next ?_
  | refine g_name ?_ | refine g_tup ?_ | refine g_unl ?_ | refine g_cons ?_ | refine g_nil ?_
  | refine t_test ?_ | refine t_B ?_ | refine t_not ?_ | refine t_and ?_ | refine t_or ?_ | refine t_yes ?_
  | refine e_var rfl ?_ | refine e_int ?_ | refine e_str ?_ | refine e_bl ?_ | refine e_non ?_ | refine e_ref ?_ | refine e_op ?_ | refine e_un ?_ | refine e_andV ?_ | refine e_orV ?_ | refine e_notV ?_ | refine e_if ?_ | refine e_isN ?_ | refine e_notN ?_
  | refine e_tup ?_ | refine e_fld ?_ | refine e_call0 ?_ | refine e_meth0 ?_ | refine e_cb ?_ | refine e_bm ?_ | refine e_dget ?_ | refine e_dget1 ?_ | refine e_din ?_ | refine e_dnotin ?_ | refine e_chain ?_ | refine e_fcall ?_ | refine e_sm ?_
  | refine a_nil ?_ | refine a_cons ?_ | refine i_list ?_ | refine i_tup ?_ | refine i_seq ?_ | refine i_rng1 ?_ | refine i_str ?_
  | refine s_none ?_ | refine s_some ?_ | refine e_slL ?_ | refine e_slT ?_
  | refine o_II ?_ | refine o_IB ?_)
local macro_rules | `(tactic| walk_at "sy") => `(tactic| repeat (first | walk_at "sy1" | refine ⟨_, rfl, ?_⟩ | refine ⟨(rfl : List.lookup _ _ = none), ?_⟩))
local macro_rules | `(tactic| walk_at "eqF") => `(tactic| (refine o_eq rfl rfl rfl ?_; walk_at "sy"; refine iF (by decide +kernel) ?_; walk_at "sy"))
local macro_rules | `(tactic| walk_at "eqT") => `(tactic| (refine o_eq rfl rfl rfl ?_; walk_at "sy"; refine iT (by decide +kernel) ?_; walk_at "sy"))
local macro_rules | `(tactic| walk_at "pureEnd") => `(tactic| (rintro d M' ⟨rfl, rfl⟩))
abbrev s__law_half : Stmt := top 62
theorem sc__law_half : FnScope ["_law_stream", "_law_names_here", "_law_words", "_law_piles", "_law_reserves", "_law_w", "_law_word"] ["_law_stream", "_law_names_here", "_law_words", "_law_piles", "_law_reserves"] (defScope s__law_half) := ⟨rfl, rfl, rfl, by decide +kernel, rfl, by decide +kernel, by decide +kernel⟩
structure Hf where
  f : List Str
  pl : List Str
  r : List Str
  rows : List Arow
  g : Tr
def kHf0 (f pl r : List Str) (a : Dt) : List (Str × Dt) := [("facts", .lst (dStrs f)), ("piles", .lst (dStrs pl)), ("reserves", .lst (dStrs r)), ("actions", a)]
def kHf (h : Hf) : List (Str × Dt) := kHf0 h.f h.pl h.r (.lst (h.rows.map dRow)) ++ ([("goal", h.g.d), ("start", Tr.alw.d)] : List (Str × Dt))
def dHf (h : Hf) : Dt := .dK (kHf h)
structure HfOk (h : Hf) : Prop where
  nm : ∀ x ∈ h.f ++ h.pl ++ h.r, NameOk x
  nd : (h.f ++ h.pl ++ h.r).Nodup
  sl : h.f.length + h.pl.length = 2
  cn : ∃ c, h.pl ++ h.r = [c]
  row : ∀ a ∈ h.rows, RowD h.f h.pl h.r a
  rn : (h.rows.map (·.1)).Nodup
  rm : ∀ a ∈ h.rows, NameOk a.1
  rl : h.rows.length ≤ 3
  gd : h.g.depth ≤ 3
  gl : h.g.names.length ≤ 2
  gn : ∀ x ∈ h.g.names, x ∈ h.f ++ h.pl
abbrev S_half : FS := ⟨Addr × Addr × Nat × List Str × List Str × Nat, fun q ds L M => let (p, sc, n, xs, ws, np) := q
    ds = [.adr p, .lst (dStrs xs), .lst (dStrs ws), .i ((np : Nat) : Int), .i (1 - ((np : Nat) : Int))] ∧ Stm M p sc n ∧ n < 60000 ∧ xs.length = 3 ∧ xs.Nodup ∧ (∀ x ∈ xs, NameOk x) ∧ ws.length ≤ 3 ∧ ws.Nodup ∧ (∀ x ∈ ws, NameOk x) ∧ np ≤ 1,
  fun q M d M' => let (p, sc, n, xs, ws, np) := q
    ∃ (h : Hf) (k : Nat), d = dHf h ∧ HfOk h ∧ (∀ x ∈ h.f ++ h.pl ++ h.r, x ∈ xs) ∧ h.rows.map (·.1) = ws ∧ k ≤ 200 ∧ Stm M' p sc (n + k) ∧ Frm p sc M M'⟩
theorem cut_half {a b c : Str} {np : Nat} (h : np ≤ 1) : ∃ f pl r, cutD (dStrs [a, b, c]) none (some (2 - ((np : Nat) : Int))) = dStrs f ∧ cutD (dStrs [a, b, c]) (some (2 - ((np : Nat) : Int))) (some 2) = dStrs pl ∧ cutD (dStrs [a, b, c]) (some 2) (some (2 + (1 - ((np : Nat) : Int)))) = dStrs r ∧
    (f ++ pl ++ r).Sublist [a, b, c] ∧ f.length + pl.length = 2 ∧ ∃ z, pl ++ r = [z] := by
  rcases (show np = 0 ∨ np = 1 by omega) with rfl | rfl
  · exact ⟨[a, b], [], [c], rfl, rfl, rfl, by simp, rfl, c, rfl⟩
  · exact ⟨[a], [b], [], rfl, rfl, rfl, by simp, rfl, b, rfl⟩
section
variable {P : Program} {w : World} {K : PySem.W.Frag} {mg : Str → Option Value} {base : Heap}
theorem ok_half (T : Tx K mg) (D : Df K mg "_law_half" s__law_half) (cC : Cal P w K mg base 4 "_law_condition" (S_cond 1).sp []) (cS : Cal P w K mg base 1 "_law_seen" S_lseen.sp []) (cA : Cal P w K mg base 5 "_law_action" S_row.sp []) : Cal P w K mg base 6 "_law_half" S_half.sp [] := by
  refine cal_sym D sc__law_half (fun _ _ _ _ _ _ us hl => match us, hl with | [_, _, _, _, _], _ => rfl) (fun a ds L M h => by obtain ⟨rfl, _⟩ := h; rfl) (fun f cdv A outer s H E hr => ⟨_, pss_cons (ps_set (i := 5) sc__law_half.nd rfl (Or.inl rfl) (pe_disp (pps_cons pe_str (pe_slice sl_list (pv 1) po_none (po_some (pe_op op_sub pe_int (pv 3)))) (pps_cons pe_str (pe_slice sl_list (pv 1) (po_some (pe_op op_sub pe_int (pv 3))) (po_some pe_int)) (pps_cons pe_str (pe_slice sl_list (pv 1) (po_some pe_int) (po_some (pe_op op_add pe_int (pv 4)))) (pps_cons pe_str (pe_lst pa_nil) pps_nil)))) (by rfl) (by rfl) (fun z => by cases z) (by decide))) (pss_cons (ps_for PassesOwn.never rfl (pi_list (pv 2)) (pg_name (i := 6) sc__law_half.nd rfl (Or.inl rfl)) (pss_one (ps_expr (pe_bm PySem.F.plainAttrs_list PySem.F.slot_list_append PySem.F.type_list_append mt_append (pe_dget (hu_of hr) (pv 5) pe_str (fun _ _ => rfl)) (pa_cons (pe_c cA hr (by omega) rfl (pa_cons (pv 0) (pa_cons (pv 5) (pa_cons (pv 6) (pa_cons pe_int pa_nil))))) pa_nil))))) (pss_cons (ps_dput (hu_of hr) (pv 5) pe_str (pe_c cC hr (by omega) rfl (pa_cons (pv 0) (pa_cons (pe_c cS hr (by omega) rfl (pa_cons (pv 5) pa_nil)) (pa_cons pe_int pa_nil)))) rfl) (pss_cons (ps_dput (hu_of hr) (pv 5) pe_str (pe_tup (pa_cons pe_str pa_nil)) rfl) (pss_one (ps_ret (pv 5)))))), fun (p, sc, n, xs, ws, np) ds L M h => ?_⟩)
  obtain ⟨rfl, hS, hn, hl, hnd, hnm, hwl, hwn, hwm, hnp⟩ := h
  have hS : Stm M p sc n := hS
  have hn : n < 60000 := hn
  have hl : xs.length = 3 := hl
  have hnd : xs.Nodup := hnd
  have hnm : ∀ x ∈ xs, NameOk x := hnm
  have hwl : ws.length ≤ 3 := hwl
  have hwn : ws.Nodup := hwn
  have hwm : ∀ x ∈ ws, NameOk x := hwm
  have hnp : np ≤ 1 := hnp
  match xs, hl with
  | [a, b, c], _ =>
  obtain ⟨f, pl, r, ef, ep, er, hsub, hsl, hcn⟩ := cut_half (a := a) (b := b) (c := c) hnp
  walk_at "sy"
  refine e_disp fun D hD => ?_
  refine p_cons ?_
  walk_at "sy"
  refine p_cons ?_
  walk_at "sy"
  refine p_cons ?_
  walk_at "sy"
  refine p_cons (e_lstO (a_nil ⟨by simp, fun t ht => ?_⟩))
  refine p_nil ⟨?_, by simp, ?_⟩
  · rw [mset_ne]
    · exact mset_same
    · rintro rfl
      rw [mset_same] at ht
      cases ht
  have htD : t ≠ D := by
    rintro rfl
    rw [mset_same] at ht
    cases ht
  have hMt : M t = none := by rw [mset_ne htD] at ht; exact ht
  rw [ef, ep, er]
  have hpD := hS.ne hD
  have hpt := hS.ne hMt
  walk_at "sy"
  have ek : mergeA [] [("facts", Dt.lst (dStrs f)), ("piles", .lst (dStrs pl)), ("reserves", .lst (dStrs r)), ("actions", .adr t)] = kHf0 f pl r (.adr t) := by
    unfold mergeA
    exact fold_putA (kHf0 f pl r (.adr t)) [] (show (["facts", "piles", "reserves", "actions"] : List Str).Nodup by decide +kernel)
  rw [ek]
  have hM1 : ∀ b, b ≠ D → b ≠ t → mset (mset (mset M D (.dK [])) t (.lst [])) D (.dK (kHf0 f pl r (.adr t))) b = M b := fun b h1 h2 => by rw [mset_ne h1, mset_ne h2, mset_ne h1]
  have hM2 : mset (mset (mset M D (.dK [])) t (.lst [])) D (.dK (kHf0 f pl r (.adr t))) D = some (.dK (kHf0 f pl r (.adr t))) := mset_same
  have hM3 : mset (mset (mset M D (.dK [])) t (.lst [])) D (.dK (kHf0 f pl r (.adr t))) t = some (.lst []) := by rw [mset_ne htD, mset_same]
  have hM4 : Stm (mset (mset (mset M D (.dK [])) t (.lst [])) D (.dK (kHf0 f pl r (.adr t)))) p sc n := ((hS.mset hpD.1 hpD.2).mset hpt.1 hpt.2).mset hpD.1 hpD.2
  generalize mset (mset (mset M D (.dK [])) t (.lst [])) D (.dK (kHf0 f pl r (.adr t))) = M1 at hM1 hM2 hM3 hM4
  have wh : ∀ (M' : Mm) (a : Dt), M' D = some (.dK (kHf0 f pl r a)) → WHas M' (.adr D) f pl r := fun M' a h => ⟨_, vw_adr h, rfl, rfl, rfl⟩
  have hlen : (f ++ pl ++ r).length ≤ 3 := hsub.length_le
  have hnmx : ∀ x ∈ f ++ pl, NameOk x := fun x hx => hnm x (hsub.subset (List.mem_append_left _ hx))
  refine ⟨fun i Γ' M' => (∃ u, Γ' = [some (.adr p), some (.lst (dStrs [a, b, c])), some (.lst (dStrs ws)), some (.i ((np : Nat) : Int)), some (.i (1 - ((np : Nat) : Int))), some (.adr D), u]) ∧
      ∃ (rows : List Arow) (k : Nat), M' D = some (.dK (kHf0 f pl r (.adr t))) ∧ M' t = some (.lst (rows.map dRow)) ∧ rows.map (·.1) = ws.take i ∧ (∀ a ∈ rows, RowD f pl r a) ∧ k ≤ 50 * i ∧ Stm M' p sc (n + k) ∧ ∀ b, b ≠ p → b ≠ sc → b ≠ D → b ≠ t → M' b = M b,
    ⟨⟨_, rfl⟩, [], 0, hM2, hM3, rfl, (fun a h => nomatch h), by omega, hM4, fun b h1 h2 h3 h4 => hM1 b h3 h4⟩, ?_, ?_⟩
  · rintro i d Γ' M' hd ⟨⟨u, rfl⟩, rows, k, q1, q2, q3, q4, q5, q6, q7⟩
    obtain ⟨z, hz, rfl⟩ := at_map hd
    have hil := (List.getElem?_eq_some_iff.mp hz).1
    walk_at "sy"
    refine .inl ⟨_, _, vw_adr q1, rfl, ?_⟩
    refine ⟨_, rfl, ?_⟩
    refine ⟨_, vw_adr q2, ?_⟩
    walk_at "sy"
    refine ⟨(p, sc, n + k, f, pl, r, z), ⟨⟨.adr D, rfl, wh _ _ q1⟩, q6, by show n + k < 70000; omega, by omega, hnmx⟩, ?_⟩
    rintro d2 M2 ⟨ar, k2, rfl, hz2, hro, hk2, hS2, hF2⟩
    walk_at "sy"
    refine m_app (ds := rows.map dRow) (by rw [hF2 t hpt.1 hpt.2]; exact q2) ?_ ?_
    · have := congrArg List.length q3
      rw [List.length_map, List.length_take] at this
      rw [List.length_map]
      omega
    walk_at "sy"
    refine ⟨⟨_, rfl⟩, rows ++ [ar], k + k2, ?_, by rw [mset_same]; simp, ?_, ?_, by omega, ?_, ?_⟩
    · rw [mset_ne htD.symm, hF2 D hpD.1 hpD.2]
      exact q1
    · rw [List.map_append, q3, take_one hz, List.map_cons, hz2]
      rfl
    · intro a ha
      rcases List.mem_append.mp ha with ha | ha
      · exact q4 a ha
      · rw [List.mem_singleton.mp ha]
        exact hro
    · rw [← Nat.add_assoc]
      exact hS2.mset hpt.1 hpt.2
    · intro b h1 h2 h3 h4
      rw [mset_ne h4, hF2 b h1 h2]
      exact q7 b h1 h2 h3 h4
  rintro Γ' M' ⟨⟨u, rfl⟩, rows, k, q1, q2, q3, q4, q5, q6, q7⟩
  have e3 : (dStrs ws).length = ws.length := by simp [dStrs]
  rw [e3] at q3 q5
  rw [List.take_length] at q3
  -- the list goes into the dict for good
  refine r_vw (VwM.vw (VwM.key (as := [("facts", .lst (dStrs f)), ("piles", .lst (dStrs pl)), ("reserves", .lst (dStrs r))]) (k := "actions") (bs := []) (t := t) (x := D) q1 q2 htD)) ?_
  have hN1 : ∀ b, b ≠ p → b ≠ sc → b ≠ D → mset (mdel M' t) D (.dK (kHf0 f pl r (.lst (rows.map dRow)))) b = M b := fun b h1 h2 h3 => by
    rw [mset_ne h3]
    by_cases h4 : b = t
    · rw [h4, hMt]
      unfold mdel
      rw [if_pos rfl]
    · rw [mdel_ne h4]
      exact q7 b h1 h2 h3 h4
  have hN2 : mset (mdel M' t) D (.dK (kHf0 f pl r (.lst (rows.map dRow)))) D = some (.dK (kHf0 f pl r (.lst (rows.map dRow)))) := mset_same
  have hN3 : Stm (mset (mdel M' t) D (.dK (kHf0 f pl r (.lst (rows.map dRow))))) p sc (n + k) := (q6.mdel hpt.1 hpt.2).mset hpD.1 hpD.2
  show Run L _ (mset (mdel M' t) D (.dK (kHf0 f pl r (.lst (rows.map dRow))))) _ _
  generalize mset (mdel M' t) D (.dK (kHf0 f pl r (.lst (rows.map dRow)))) = M2 at hN1 hN2 hN3
  walk_at "sy"
  refine ⟨(f, pl, r), ⟨⟨.adr D, rfl, wh _ _ hN2⟩, by show f.length + pl.length ≤ 100; omega⟩, ?_⟩
  rintro d3 M3 ⟨rfl, rfl⟩
  walk_at "sy"
  refine ⟨(p, sc, n + k, f ++ pl), ⟨rfl, hN3, by omega, by rw [List.length_append]; omega, hnmx, by omega⟩, ?_⟩
  rintro d4 M4 ⟨g, k4, rfl, g1, g2, g3, g4, g5, g6⟩
  have h4D : M4 D = some (.dK (kHf0 f pl r (.lst (rows.map dRow)))) := by rw [g6 D hpD.1 hpD.2]; exact hN2
  have eg : ∀ x : Dt, putA (kHf0 f pl r (.lst (rows.map dRow))) "goal" x = kHf0 f pl r (.lst (rows.map dRow)) ++ ([("goal", x)] : List (Str × Dt)) := fun x =>
    putA_fresh (show ("goal" : Str) ∉ (["facts", "piles", "reserves", "actions"] : List Str) by decide +kernel)
  have es : ∀ x y : Dt, putA (kHf0 f pl r (.lst (rows.map dRow)) ++ ([("goal", x)] : List (Str × Dt))) "start" y = kHf0 f pl r (.lst (rows.map dRow)) ++ ([("goal", x), ("start", y)] : List (Str × Dt)) := fun x y =>
    putA_fresh (show ("start" : Str) ∉ (["facts", "piles", "reserves", "actions", "goal"] : List Str) by decide +kernel)
  walk_at "sy"
  refine .inl ⟨_, _, h4D, rfl, by simp [kHf0], ?_⟩
  rw [eg]
  walk_at "sy"
  refine ⟨by simp, ?_⟩
  walk_at "sy"
  refine .inl ⟨_, _, mset_same, rfl, by simp [kHf0], ?_⟩
  rw [es, mset_mset]
  refine r_ret (e_frz ?_)
  walk_at "sy"
  refine ⟨D, _, rfl, mset_same, ?_⟩
  refine ⟨⟨f, pl, r, rows, g⟩, k + k4, rfl, ⟨?_, ?_, hsl, hcn, q4, ?_, ?_, ?_, g1, g2, g3⟩, hsub.subset, q3, ?_, ?_, ?_⟩
  · exact fun x hx => hnm x (hsub.subset hx)
  · exact hsub.nodup hnd
  · show (rows.map (·.1)).Nodup
    rw [q3]
    exact hwn
  · intro a ha
    refine hwm a.1 ?_
    rw [← q3]
    exact List.mem_map.mpr ⟨a, ha, rfl⟩
  · have := congrArg List.length q3
    rw [List.length_map] at this
    show rows.length ≤ 3
    omega
  · have : 50 * ws.length ≤ 150 := by omega
    omega
  · rw [← Nat.add_assoc]
    exact (g5.mset hpD.1 hpD.2).mdel hpD.1 hpD.2
  · intro b h1 h2
    by_cases h3 : b = D
    · rw [h3, hD]
      unfold mdel
      rw [if_pos rfl]
    · rw [mdel_ne h3, mset_ne h3, g6 b h1 h2]
      exact hN1 b h1 h2 h3
end
end K85
set_option maxRecDepth 100000
set_option maxHeartbeats 4000000
/-! the law's worlds, tasks, parts -/
namespace K85
open PySem L2
open C8 (Cal Met Mak pe_c pe_mk pe_mt pe_mt0 pe_gc)
local macro_rules | `(tactic| walk_at "sy1") => `(tactic| with_reducible first
  | refine r_seq ?_ | refine r_if ?_ | refine r_ret ?_ | refine r_retN ?_ | refine r_asg ?_ | refine r_drop ?_ | refine r_brk ?_ | refine r_cont ?_ | refine r_fld ?_ | refine r_dput ?_ | refine r_for ?_ | refine r_next ?_
  | refine g_name ?_ | refine g_tup ?_ | refine g_unl ?_ | refine g_cons ?_ | refine g_nil ?_
  | refine t_test ?_ | refine t_B ?_ | refine t_not ?_ | refine t_and ?_ | refine t_or ?_ | refine t_yes ?_
  | refine e_var rfl ?_ | refine e_int ?_ | refine e_str ?_ | refine e_bl ?_ | refine e_non ?_ | refine e_ref ?_ | refine e_op ?_ | refine e_un ?_ | refine e_andV ?_ | refine e_orV ?_ | refine e_notV ?_ | refine e_if ?_ | refine e_isN ?_ | refine e_notN ?_
  | refine e_tup ?_ | refine e_fld ?_ | refine e_call0 ?_ | refine e_meth0 ?_ | refine e_cb ?_ | refine e_bm ?_ | refine e_dget ?_ | refine e_dget1 ?_ | refine e_din ?_ | refine e_dnotin ?_ | refine e_chain ?_ | refine e_fcall ?_ | refine e_sm ?_
  | refine a_nil ?_ | refine a_cons ?_ | refine i_list ?_ | refine i_tup ?_ | refine i_seq ?_ | refine i_rng1 ?_ | refine i_str ?_
  | refine s_none ?_ | refine s_some ?_ | refine e_slL ?_ | refine e_slT ?_
  | refine o_II ?_ | refine o_IB ?_)
local macro_rules | `(tactic| walk_at "sy") => `(tactic| repeat (first | walk_at "sy1" | refine ⟨_, rfl, ?_⟩ | refine ⟨(rfl : List.lookup _ _ = none), ?_⟩))
local macro_rules | `(tactic| walk_at "eqF") => `(tactic| (refine o_eq rfl rfl rfl ?_; walk_at "sy"; refine iF (by decide +kernel) ?_; walk_at "sy"))
local macro_rules | `(tactic| walk_at "eqT") => `(tactic| (refine o_eq rfl rfl rfl ?_; walk_at "sy"; refine iT (by decide +kernel) ?_; walk_at "sy"))
local macro_rules | `(tactic| walk_at "pureEnd") => `(tactic| (rintro d M' ⟨rfl, rfl⟩))
abbrev s__law_made : Stmt := top 60
theorem sc__law_made : FnScope ["_law_w", "_law_world", "_law_name_here", "_law_need", "_law_outcomes", "_law_changes_here"] ["_law_w"] (defScope s__law_made) := ⟨rfl, rfl, rfl, by decide +kernel, rfl, by decide +kernel, by decide +kernel⟩
abbrev s__law_set : Stmt := top 61
theorem sc__law_set : FnScope ["_law_w"] ["_law_w"] (defScope s__law_set) := ⟨rfl, rfl, rfl, by decide +kernel, rfl, by decide +kernel, by decide +kernel⟩
abbrev s__law_part : Stmt := top 63
theorem sc__law_part : FnScope ["_law_w", "_law_state", "_law_name_here"] ["_law_w", "_law_state"] (defScope s__law_part) := ⟨rfl, rfl, rfl, by decide +kernel, rfl, by decide +kernel, by decide +kernel⟩
def rAct (a : Arow) : Str × Act := (a.1, ⟨a.2.1, a.2.2⟩)
def hWd (h : Hf) : Wd := ⟨h.f, h.pl, h.r, h.rows.map rAct⟩
theorem HfOk.len {h : Hf} (k : HfOk h) : (h.f ++ h.pl ++ h.r).length ≤ 3 := by
  obtain ⟨c, hc⟩ := k.cn
  have h1 := congrArg List.length hc
  have h2 := k.sl
  rw [List.length_append] at h1
  rw [List.length_append, List.length_append]
  simp only [List.length_cons, List.length_nil] at h1
  omega
theorem HfOk.nms {h : Hf} (k : HfOk h) : NmsOk (hWd h) where
  nm := k.nm
  nd := k.nd
  len := Nat.le_trans k.len (by decide)
  pl := by
    show h.pl.length ≤ 2
    have := k.sl
    omega
  sl := by
    show h.f.length + h.pl.length ≤ 4
    have := k.sl
    omega
theorem outD_ok {h : Hf} (k : HfOk h) {b : Bool} {o : Out} (ho : OutD h.f h.pl h.r b o) : OutOk o where
  nm := fun q hq => by
    refine k.nm q.1 ?_
    rcases ho.ch q hq with ⟨h, _⟩ | ⟨h, _⟩ | ⟨h, _⟩
    · exact List.mem_append_left _ (List.mem_append_left _ h)
    · exact List.mem_append_left _ (List.mem_append_right _ h)
    · exact List.mem_append_right _ h
  nd := ho.nd
  len := Nat.le_trans ho.len (Nat.le_trans k.len (by decide))
theorem row_in {h : Hf} (k : HfOk h) {a : Arow} (ha : a ∈ h.rows) : ActIn (hWd h) (rAct a).2 := by
  have hr := k.row a ha
  refine ⟨⟨fun o ho => ?_, ?_, ?_⟩, fun o ho q hq => ?_, hr.nms, ⟨Nat.le_trans hr.dep (by decide), Nat.le_trans hr.nml (by decide)⟩, ?_⟩
  · obtain ⟨b, hb⟩ := hr.out o ho
    exact outD_ok k hb
  · obtain ⟨o, ho, _⟩ := hr.free
    exact List.ne_nil_of_mem ho
  · exact Nat.le_trans hr.len (by decide)
  · obtain ⟨b, hb⟩ := hr.out o ho
    rcases hb.ch q hq with h | h | ⟨h1, h2⟩
    · exact .inl h
    · exact .inr (.inl h)
    · exact .inr (.inr ⟨h1, h2.elim .inl fun z => .inr z.1⟩)
  · obtain ⟨o, ho, hf⟩ := hr.free
    refine ⟨o, ho, ?_⟩
    unfold tkr
    rw [List.any_eq_false]
    intro x hx
    have hx : x ∈ h.r := hx
    rw [decide_eq_true_eq]
    intro hg
    have hm : (x, Ch.take) ∈ o := by
      unfold Out.get at hg
      obtain ⟨q, h1, h2⟩ := Option.map_eq_some_iff.mp hg
      have h3 := List.find?_some h1
      have h4 := List.mem_of_find?_eq_some h1
      rw [decide_eq_true_eq] at h3
      rw [← h2, ← h3]
      exact h4
    have hn := k.nd
    rcases hf.ch _ hm with ⟨_, h1⟩ | ⟨h1, _⟩ | ⟨_, h1⟩
    · rcases h1 with h1 | h1 <;> cases h1
    · rw [List.nodup_append] at hn
      exact hn.2.2 x (List.mem_append_right _ h1) x hx rfl
    · rcases h1 with h1 | ⟨_, h1⟩
      · cases h1
      · cases h1
theorem HfOk.wd {h : Hf} (k : HfOk h) : WdOk (hWd h) where
  nms := k.nms
  act := fun q hq => by
    obtain ⟨a, ha, rfl⟩ := List.mem_map.mp hq
    exact row_in k ha
  nd := by
    show ((h.rows.map rAct).map (·.1)).Nodup
    rw [List.map_map]
    exact k.rn
  nm := fun q hq => by
    obtain ⟨a, ha, rfl⟩ := List.mem_map.mp hq
    exact k.rm a ha
  len := by
    show (h.rows.map rAct).length ≤ 8
    rw [List.length_map]
    exact Nat.le_trans k.rl (by decide)
abbrev S_made (K : PySem.W.Frag) : FS := ⟨Hf, fun h ds L M => ds = [dHf h] ∧ HfOk h ∧ ∀ b, L b = none, fun h M d M' => M = M' ∧ d = dWd K (hWd h)⟩
abbrev S_set (K : PySem.W.Frag) : FS := ⟨Hf, fun h ds L M => ds = [dHf h] ∧ HfOk h ∧ ∀ b, L b = none, fun h M d M' => M = M' ∧ d = dTask K (hWd h) .alw h.g⟩
abbrev S_part : FS := ⟨Hf × List Str, fun q ds L M => ds = [dHf q.1, .tup (dStrs q.2)] ∧ HfOk q.1, fun q M d M' => M = M' ∧ d = .tup (dStrs ((q.1.f ++ q.1.pl).filter fun x => decide (x ∈ q.2)))⟩
section
variable {P : Program} {w : World} {K : PySem.W.Frag} {mg : Str → Option Value} {base : Heap}
theorem has_hf {M : Mm} (h : Hf) : WHas M (dHf h) h.f h.pl h.r := ⟨kHf h, rfl, rfl, rfl, rfl⟩
theorem ok_part (T : Tx K mg) (D : Df K mg "_law_part" s__law_part) (cS : Cal P w K mg base 1 "_law_seen" S_lseen.sp []) : Cal P w K mg base 2 "_law_part" S_part.sp [] := by
  refine cal_sym D sc__law_part (fun _ _ _ _ _ _ us hl => match us, hl with | [_, _], _ => rfl) (fun a ds L M h => by obtain ⟨rfl, _⟩ := h; rfl) (fun f cdv A outer s H E hr => ⟨_, pss_one (ps_ret (pe_callTy call_tuple_of (by rfl) T.f_tuple (by decide +kernel) (pa_cons (pe_lc (own := [("_law_name_here", 2)]) rfl sc__law_part.nd (pi_list (pe_c cS hr (by omega) rfl (pa_cons (pv 0) pa_nil))) (blkOk_by (own := [("_law_name_here", 2)]) (N := ["_law_w", "_law_state", "_law_name_here"]) (sc := defScope s__law_part) (by decide +kernel)) (fun _ _ _ _ _ => (pg_name (i := 2) sc__law_part.nd rfl (Or.inl rfl))) (fun _ _ _ _ _ => (pts_one (pt_cmpR (show OpR _ _ (rIn K false) from op_in_seq) (pv 2) (pv 1) rfl))) (fun _ _ _ _ _ => (pv 2))) pa_nil))), fun (h, st) ds L M hh => ?_⟩)
  obtain ⟨rfl, hk⟩ := hh
  have hk : HfOk h := hk
  have hsl := hk.sl
  walk_at "sy"
  refine e_lcM (α := Str) (wo_name (by decide)) ?_
  walk_at "sy"
  refine ⟨(h.f, h.pl, h.r), ⟨⟨_, rfl, has_hf h⟩, by show h.f.length + h.pl.length ≤ 100; omega⟩, ?_⟩
  rintro d M1 ⟨rfl, rfl⟩
  refine ⟨_, rfl, h.f ++ h.pl, Dt.s, fun x => decide (x ∈ st), Dt.s, rfl, by rw [List.length_append]; omega, fun x hx => ?_, ?_⟩
  · intro M' l
    walk_at "sy"
    refine ⟨rfl, ?_⟩
    walk_at "sy"
    refine o_inS (.inr rfl) ?_
    walk_at "sy"
    refine ⟨rfl, rfl, fun _ => ?_⟩
    walk_at "sy"
    exact ⟨rfl, rfl⟩
  · walk_at "sy"
    refine c_tuple (.inl rfl) ?_
    exact ⟨rfl, rfl⟩
theorem ok_made (T : Tx K mg) (D : Df K mg "_law_made" s__law_made) (kW : Mak P w K mg base 4 "World" (cl K "World") (S_Winit K).sp [.non]) (cB : Cal P w K mg base 7 "_law_built" (S_built K 3).sp []) (kA : Mak P w K mg base 6 "Action" (cl K "Action") (S_Ainit K).sp []) (kO : Mak P w K mg base 3 "Outcome" (cl K "Outcome") (S_Oinit K).sp []) (dS : Dun P w K mg base 10 (cl K "World") "__setitem__" (S_Wset K).sp) : Cal P w K mg base 12 "_law_made" (S_made K).sp [] := by
  refine cal_sym D sc__law_made (fun _ _ _ _ _ _ us hl => match us, hl with | [_], _ => rfl) (fun a ds L M h => by obtain ⟨rfl, _⟩ := h; rfl) (fun f cdv A outer s H E hr => ⟨_, pss_cons (ps_set (i := 1) sc__law_made.nd rfl (Or.inl rfl) (pe_mk kW hr (by omega) rfl (pa_cons (pe_dget (hu_of hr) (pv 0) pe_str (fun _ _ => rfl)) (pa_cons (pe_callTy call_tuple_of (by rfl) T.f_tuple (by decide +kernel) (pa_cons (pe_dget (hu_of hr) (pv 0) pe_str (fun _ _ => rfl)) pa_nil)) (pa_cons (pe_dget (hu_of hr) (pv 0) pe_str (fun _ _ => rfl)) pa_nil))))) (pss_cons (ps_for PassesOwn.never rfl (pi_list (pe_dget (hu_of hr) (pv 0) pe_str (fun _ _ => rfl))) (pg_unl rfl (pgs_cons (pg_name (i := 2) sc__law_made.nd rfl (Or.inl rfl)) (pgs_cons (pg_name (i := 3) sc__law_made.nd rfl (Or.inl rfl)) (pgs_cons (pg_name (i := 4) sc__law_made.nd rfl (Or.inl rfl)) pgs_nil)))) (pss_one (ps_asg (pe_mk kA hr (by omega) rfl (pa_cons (pe_c cB hr (by omega) rfl (pa_cons (pv 3) pa_nil)) (pa_cons (pe_lc (own := [("_law_changes_here", 5)]) rfl sc__law_made.nd (pi_list (pv 4)) (blkOk_by (own := [("_law_changes_here", 5)]) (N := ["_law_w", "_law_world", "_law_name_here", "_law_need", "_law_outcomes", "_law_changes_here"]) (sc := defScope s__law_made) (by decide +kernel)) (fun _ _ _ _ _ => (pg_name (i := 5) sc__law_made.nd rfl (Or.inl rfl))) (fun _ _ _ _ _ => pts_nil) (fun _ _ _ _ _ => (pe_mk kO hr (by omega) rfl (pa_cons (pe_callTy cr_dictOf (by rfl) T.f_dict (by decide +kernel) (pa_cons (pv 5) pa_nil)) pa_nil)))) pa_nil))) (pg_sub (pv 1) (pv 2) (set_O dS hr (by omega) T.q_Wd))))) (pss_one (ps_ret (pv 1)))), fun (h : Hf) ds L M hh => ?_⟩)
  obtain ⟨rfl, hk, hL⟩ := hh
  walk_at "sy"
  refine e_make (dds := [.non]) (fun _ => ?_) ?_
  · unfold RepL
    refine ⟨_, _, rfl, ?_, repL_nil⟩
    unfold Rep
    rfl
  have hk : HfOk h := hk
  have hL : ∀ b, L b = none := hL
  walk_at "sy"
  refine .inl ⟨_, _, rfl, rfl, ?_⟩
  refine ⟨_, rfl, ?_⟩
  walk_at "sy"
  refine .inl ⟨_, _, rfl, rfl, ?_⟩
  refine ⟨_, rfl, ?_⟩
  walk_at "sy"
  refine c_tuple (.inl rfl) ?_
  walk_at "sy"
  refine .inl ⟨_, _, rfl, rfl, ?_⟩
  refine ⟨_, rfl, ?_⟩
  walk_at "sy"
  intro x hx
  refine ⟨(x, ((true, h.f), (false, h.pl), (true, h.r)), none), ⟨rfl, mset_same, w3_ok hk.nms, (fun t e => nomatch e), hL⟩, ?_⟩
  rintro d M2 ⟨rfl, t, hne, ht, rfl⟩
  have hne : t ≠ x := hne
  have ht : mset M x (.ins (cl K "World") []) t = none := ht
  rw [mset_ne hne] at ht
  refine ⟨rfl, ?_⟩
  walk_at "sy"
  refine .inl ⟨_, _, rfl, rfl, ?_⟩
  refine ⟨_, rfl, ?_⟩
  let w0 : Wd := ⟨h.f, h.pl, h.r, []⟩
  refine ⟨_, rfl, fun i Γ' M' => (∃ u1 u2 u3 u4, Γ' = [some (dHf h), some (.adr x), u1, u2, u3, u4]) ∧ M' x = some (dWdT K w0 (.adr t)) ∧ M' t = some (.dK (kTab K ((h.rows.map rAct).take i))) ∧ ∀ b, b ≠ x → b ≠ t → M' b = M b, ⟨⟨_, _, _, _, rfl⟩, ?_, ?_, ?_⟩, ?_, ?_⟩
  · show mset (mset (mset M x _) x (dWdT K w0 (.adr t))) t _ x = _
    rw [mset_ne hne.symm, mset_same]
  · show mset (mset (mset M x _) x (dWdT K w0 (.adr t))) t _ t = _
    rw [mset_same]
    rfl
  · intro b h1 h2
    show mset (mset (mset M x _) x (dWdT K w0 (.adr t))) t _ b = _
    rw [mset_ne h2, mset_ne h1, mset_ne h1]
  · rintro i d Γ' M' hd ⟨⟨u1, u2, u3, u4, rfl⟩, q1, q2, q3⟩
    obtain ⟨a, ha, rfl⟩ := at_map hd
    have har : a ∈ h.rows := List.mem_of_getElem? ha
    have hro := hk.row a har
    have hin := row_in hk har
    refine g_unl ⟨_, rfl, rfl, ?_⟩
    walk_at "sy"
    refine e_init (fun _ => repL_nil) ?_
    walk_at "sy"
    refine ⟨a.2.1, ⟨rfl, hro.dep, fun y hy => hk.nm y (List.mem_append_left _ (hro.nms y hy))⟩, ?_⟩
    rintro d2 M2 ⟨rfl, rfl⟩
    refine a_cons (e_lcM (α := Out) (wo_name (by decide)) ?_)
    walk_at "sy"
    refine ⟨a.2.2, fun o => .dK (kOut o), fun _ => true, dOut K, rfl, Nat.le_trans hro.len (by decide), fun o ho => ?_, ?_⟩
    · obtain ⟨bb, hbo⟩ := hro.out o ho
      intro M3 l
      walk_at "sy"
      refine ⟨rfl, t_yes ?_⟩
      refine ⟨rfl, rfl, fun _ => ?_⟩
      refine e_init (fun _ => repL_nil) ?_
      walk_at "sy"
      refine c_dictOf rfl ?_
      walk_at "sy"
      exact ⟨⟨outD_ok hk hbo, noflat0 hL⟩, rfl, rfl⟩
    rw [filter_tt]
    walk_at "sy"
    refine ⟨(rAct a).2, rfl, ⟨hin.ok, noflat0 hL⟩, ?_⟩
    refine g_subOwn ?_
    walk_at "sy"
    have hin0 : ActIn w0 (rAct a).2 := ⟨hin.ok, hin.ch, hin.need, hin.dep, hin.free⟩
    have hn0 : NmsOk w0 := ⟨hk.nms.nm, hk.nms.nd, hk.nms.len, hk.nms.pl, hk.nms.sl⟩
    have hra : (h.rows.map rAct)[i]? = some (rAct a) := by rw [List.getElem?_map, ha]; rfl
    have hil := (List.getElem?_eq_some_iff.mp ha).1
    have hnw : a.1 ∉ ((h.rows.map rAct).take i).map (·.1) := by
      have hnd := hk.wd.nd
      have hnd : ((h.rows.map rAct).map (·.1)).Nodup := hnd
      rw [List.map_take]
      intro hm
      have h2 : ((h.rows.map rAct).map (·.1))[i]? = some a.1 := by rw [List.getElem?_map, hra]; rfl
      obtain ⟨j, hj, e⟩ := List.mem_take_iff_getElem.mp hm
      have hj' : j < ((h.rows.map rAct).map (·.1)).length := by omega
      have hi' : i < ((h.rows.map rAct).map (·.1)).length := (List.getElem?_eq_some_iff.mp h2).1
      have := (List.getElem_inj (h₀ := hj') (h₁ := hi') hnd).mp (by rw [e, (List.getElem?_eq_some_iff.mp h2).2])
      omega
    refine ⟨⟨_, vw_adr q1⟩, (x, t, w0, (h.rows.map rAct).take i, a.1, (rAct a).2), ⟨rfl, q1, q2, hne, hn0, hk.rm a har, hin0, noflat0 hL, hnw, ?_⟩, ?_⟩
    · have := List.length_take_le' i (h.rows.map rAct)
      have h3 := hk.rl
      rw [List.length_map] at this
      show ((h.rows.map rAct).take i).length ≤ 100
      omega
    rintro d3 M3 ⟨rfl, rfl⟩
    refine ⟨⟨_, _, _, _, rfl⟩, ?_, ?_, fun b h1 h2 => ?_⟩
    · show mset M' t _ x = _
      rw [mset_ne hne.symm]
      exact q1
    · show mset M' t _ t = _
      rw [mset_same, take_one hra]
      rfl
    · show mset M' t _ b = _
      rw [mset_ne h2]
      exact q3 b h1 h2
  · rintro Γ' M' ⟨⟨u1, u2, u3, u4, rfl⟩, q1, q2, q3⟩
    refine r_ret (Ev.post ?_)
    walk_at "sy"
    have e1 : (h.rows.map dRow).length = (h.rows.map rAct).length := by rw [List.length_map, List.length_map]
    rw [e1, List.take_length] at q2
    refine ⟨_, M, vw_world (x := x) (t := t) (v := w0) (tb := h.rows.map rAct) q1 q2 hne (fun b d e => ?_), rfl, rfl⟩
    have n1 : b ≠ x := by
      rintro rfl
      rw [hx] at e
      cases e
    have n2 : b ≠ t := by
      rintro rfl
      rw [ht] at e
      cases e
    exact ⟨n1, n2, by rw [q3 b n1 n2]; exact e⟩
theorem ok_set (T : Tx K mg) (D : Df K mg "_law_set" s__law_set) (kT : Mak P w K mg base 9 "Task" (cl K "Task") (S_Tinit K).sp []) (cM : Cal P w K mg base 12 "_law_made" (S_made K).sp []) (cB : Cal P w K mg base 7 "_law_built" (S_built K 3).sp []) : Cal P w K mg base 13 "_law_set" (S_set K).sp [] := by
  refine cal_sym D sc__law_set (fun _ _ _ _ _ _ us hl => match us, hl with | [_], _ => rfl) (fun a ds L M h => by obtain ⟨rfl, _⟩ := h; rfl) (fun f cdv A outer s H E hr => ⟨_, pss_one (ps_ret (pe_mk kT hr (by omega) rfl (pa_cons (pe_c cM hr (by omega) rfl (pa_cons (pv 0) pa_nil)) (pa_cons (pe_c cB hr (by omega) rfl (pa_cons (pe_dget (hu_of hr) (pv 0) pe_str (fun _ _ => rfl)) pa_nil)) (pa_cons (pe_c cB hr (by omega) rfl (pa_cons (pe_dget (hu_of hr) (pv 0) pe_str (fun _ _ => rfl)) pa_nil)) pa_nil))))), fun (h : Hf) ds L M hh => ?_⟩)
  obtain ⟨rfl, hk, hL⟩ := hh
  have hk : HfOk h := hk
  have hL : ∀ b, L b = none := hL
  walk_at "sy"
  refine e_init (fun _ => repL_nil) ?_
  walk_at "sy"
  refine ⟨h, ⟨rfl, hk, hL⟩, ?_⟩
  rintro d1 M1 ⟨rfl, rfl⟩
  walk_at "sy"
  refine .inl ⟨_, _, rfl, rfl, ?_⟩
  refine ⟨_, rfl, ?_⟩
  walk_at "sy"
  refine ⟨.alw, ⟨rfl, by decide, fun y hy => by simp [Tr.names] at hy⟩, ?_⟩
  rintro d2 M2 ⟨rfl, rfl⟩
  walk_at "sy"
  refine .inl ⟨_, _, rfl, rfl, ?_⟩
  refine ⟨_, rfl, ?_⟩
  walk_at "sy"
  refine ⟨h.g, ⟨rfl, hk.gd, fun y hy => hk.nm y (List.mem_append_left _ (hk.gn y hy))⟩, ?_⟩
  rintro d3 M3 ⟨rfl, rfl⟩
  walk_at "sy"
  refine ⟨(hWd h, .alw, h.g), rfl, ⟨hk.wd, ⟨by show (1 : Nat) ≤ 5; decide, by show (0 : Nat) ≤ 32; decide, fun y hy => by simp [Tr.names] at hy⟩, ⟨Nat.le_trans hk.gd (by decide), Nat.le_trans hk.gl (by decide), hk.gn⟩, hL⟩, rfl, rfl⟩
end
end K85
set_option maxRecDepth 100000
set_option maxHeartbeats 2000000
/-! promises where no object is being shown (the guards are known to be none): repr of a list of bools, the law's own call. The rule of a call is the library's, turned to such promises. -/
namespace K85
open PySem PySem.Spec PyProof.Rows L2
/-- a def's promise, called where no repr is under way -/
structure FnG (P : Program) (w : World) (K : PySem.W.Frag) (mg : Str → Option Value) (base : Heap) (k : Nat) (f : Addr) (fd : FuncData) (ps : List Str) (sp : Sp) : Prop where
  len : ∀ vs H Q E, sp vs H Q E → vs.length = ps.length
  run : ∀ (A : Around) (outer : List Env) (s : Shared) (H : Hp) (args : Args) (us : List Value) (vs : List V) (Q : VK) (E : XK), A.guards = some [] → Room k A → Env0 P w K mg base A outer s H → BindsTo s fd args (ps.zip us) → Vals vs us → sp vs H Q E →
    codeAny (model P w) A (.call (.ref f) args) (CR CX0 outer P w H s Q E) s
structure CalG (P : Program) (w : World) (K : PySem.W.Frag) (mg : Str → Option Value) (base : Heap) (k : Nat) (x : Str) (sp : Sp) : Prop where
  ex : ∃ (f : Addr) (fd : FuncData) (ps : List Str), FnG P w K mg base k f fd ps sp ∧ mg x = some (.ref f) ∧ PySem.W.keepIn K (.ref f) = true ∧ Binds K fd ps []
section
variable {P : Program} {w : World} {K : PySem.W.Frag} {mg : Str → Option Value} {base : Heap} {x qual : Str} {params : Arguments} {body : List Stmt} {scope : Scope} {dvs : List V} {kws : List (Str × V)} {f : Addr} {fd : FuncData} {N ps : List Str} {k : Nat} {sp : Sp}
theorem fnG_of (F : FunD K x qual params body scope dvs kws f fd) (S : FnScope N ps scope) (len : ∀ vs H Q E, sp vs H Q E → vs.length = ps.length)
    (hbody : ∀ (cdv : Value) (A : Around) (outer : List Env) (s : Shared) (H : Hp) (vs : List V) (Q : VK) (E : XK), A.guards = some [] → Room k (A.deeper (envOfC qual scope s.heap.objs.size f cdv)) → sp vs H Q E →
      ∃ t, PSs (cxOf CX0 P w K mg base N qual scope f cdv A outer s H E) body t ∧ t { nx := fun _ H' => Q .non H', rt := Q } (L2.start N vs) H) : FnG P w K mg base (k + 1) f fd ps sp := by
  obtain ⟨oc, od, dV, kV, doc, pm, an, cdv, ct, osl, rfl, lk, hcd, _, _⟩ := F.ex
  refine ⟨len, fun A outer s H args us vs Q E hgd hr e0 hb r hsp => ?_⟩
  have hl := len _ _ _ _ hsp
  have KX : K.In s.heap := e0.mod.kin.keeps fun b o e => (e0.bs b o e).1
  have lim : s.heap.NoLimit := e0.mod.nolimit.keeps fun b o e => (e0.bs b o e).1
  have hkind : ∀ y ∈ ps.zip us, scope.names.lookup y.1 = some .local ∨ (scope.names.lookup y.1 = some .cell ∧ ((cellsFrom (s.heap.objs.size + 1) scope.names []).lookup y.1).isSome = true) := fun ⟨n, v⟩ hy => by
    rcases S.par n (List.of_mem_zip hy).1 with q | q
    · exact .inl q
    · exact .inr ⟨q, PySem.W.cellsFrom_some _ _ _ (.inl q)⟩
  refine codeAny_call_function hr.depth (KX _ _ lk) rfl S.co S.gen rfl (PySem.W.codeRec_of KX hcd) (hb _ _ _ _ ?_)
  refine wpAny_newFunctionEnv_cells S.kind hkind fun env he s1 x => ?_
  subst he
  refine ⟨lim.keeps x.toInCall.keep, codeAny_func ?_⟩
  obtain ⟨t, ht, hq⟩ := hbody cdv A outer s H vs Q E hgd (hr.deeper _) hsp
  have I : Inv (cxOf CX0 P w K mg base N qual scope f cdv A outer s H E) [] (L2.start N vs) H s1 := inv_start S hr.hd e0 hl r x
  refine wpAny_mono (ht.run [] s1 (L2.start N vs) H _ I hq) (fun fl s' hs => ?_) fun e s' hs => hs
  have fin : ∀ {σ' : L2.St} {H' : Hp} {v : V} {u : Value}, Inv (cxOf CX0 P w K mg base N qual scope f cdv A outer s H E) [] σ' H' s' → RelV v u → Q v H' → CE outer P w H s Q u s' :=
    fun {σ' H' v u} J rv q => ⟨v, H', J.os, J.bare, J.base, J.hok, rv, q⟩
  cases fl with
  | ret u =>
    obtain ⟨v, σ', H', J, rv, q⟩ := hs
    exact fin J rv q
  | next =>
    obtain ⟨σ', H', J, q⟩ := hs
    exact fin (v := V.non) (u := Value.none) J rfl q
  | brk =>
    obtain ⟨_, _, _, q⟩ := hs
    exact False.elim q
  | cont =>
    obtain ⟨_, _, _, q⟩ := hs
    exact False.elim q
theorem calG_sym {x : Str} {st : Stmt} {N ps : List Str} {k : Nat} {S : FS} (D : Df K mg x st) (hS : FnScope N ps (defScope st)) (hb : Bd1 ps x x st) (len : ∀ a ds L M, S.pre a ds L M → ds.length = ps.length)
    (body : ∀ (f : Addr) (cdv : Value) (A : Around) (outer : List Env) (s : Shared) (H : Hp) (E : XK), A.guards = some [] → Room k (A.deeper (envOfC x (defScope st) s.heap.objs.size f cdv)) →
      ∃ t, PSs (cxOf CX0 P w K mg base N x (defScope st) f cdv A outer s H E).nox (defBody st) t ∧ ∀ (a : S.α) ds L M, S.pre a ds L M → Run L (startG N ds) M t { nx := fun _ M' => S.post a M .non M', rt := fun d M' => S.post a M d M' }) : CalG P w K mg base (k + 1) x S.sp := by
  obtain ⟨f, fd, F, hm⟩ := D.ex
  refine ⟨f, fd, ps, fnG_of F hS (fun vs H Q E h => ?_) (fun cdv A outer s H vs Q E hgd hr h => ?_), hm, F.kp, F.bindsN hb⟩
  · obtain ⟨a, L, M, H0, ds, _, r, hp, _⟩ := h
    rw [repL_len r]
    exact len a ds L M hp
  · obtain ⟨a, L, M, H0, ds, sv, r, hp, q⟩ := h
    obtain ⟨t, h1, h2⟩ := body f cdv A outer s H E hgd hr
    refine ⟨t, h1.nox, h2 a ds L M hp (L2.start N vs) H0 H _ sv (sg_start r) ⟨fun _ M' _ H0' H' e s' _ p => ?_, fun v d M' H0' H' e s' rr p => ?_, fun _ _ _ _ _ _ _ _ z => z.elim, fun _ _ _ _ _ _ _ _ z => z.elim⟩⟩
    · exact q .non .non M' H0' H' e s' (by unfold Rep; rfl) p
    · exact q v d M' H0' H' e s' rr p
end
section
variable {X : Cx} {k j : Nat} {x : Str} {sp : Sp} {p pos : Pos} {e : Expr} {es : List Expr} {t : TA}
theorem pe_cG (c : CalG X.prog X.w X.K X.mg X.base k x sp) (hgd : X.A.guards = some []) (hr : Room j X.A) (hk : k ≤ j) (hg : Gl X x) (ha : PA X (e :: es) t)
    (hdb : (x == ("__debug__" : Str)) = false := by decide) (he : starEach (e :: es) X.env = (false, eval e X.env) :: starEach es X.env := by rfl) (hpl : (backTo pos (starEach es X.env)).any (·.1) = false := by rfl) :
    PE X (.Call (.Name x p) (e :: es) [] pos) (tCall sp [] E0 t) := by
  obtain ⟨f, fd, ps, F, hm, kp, b⟩ := c.ex
  refine ⟨fun pins s σ H Q I h => ?_⟩
  refine wpAny_Call_Name_kw (ld_glob I hg hm ?_ hdb)
  refine PySem.W.callWith_K (h₀ := X.base) I.ok.mod.kin kp (thn (ha.run pos pins s σ H _ I h) fun us s1 ⟨vs, H1, I1, r, q⟩ => ⟨I1.kIn, ?_⟩) he hpl
  have q : sp (vs ++ []) H1 Q E0 := q
  rw [List.append_nil] at q
  show wpAny (model X.prog X.w) X.A (call (Value.ref f) us) (EP X pins σ Q) X.xe s1
  have hl : us.length = ps.length := by rw [← r.length]; exact F.len _ _ _ _ q
  refine wpAny_call (codeAny_mono (F.run X.A X.stack s1 H1 ⟨us, []⟩ us vs _ E0 hgd (hr.mono hk) I1.env0 (by
    have z := b s1 us I1.kIn (by rw [List.append_nil]; exact hl)
    rw [List.append_nil] at z
    exact z) r q) fun r s' hq => ?_)
  cases r with
  | error e => exact False.elim hq
  | ok fl =>
    cases fl with
    | ret u => exact I1.after hq
    | next => exact False.elim hq
    | brk => exact False.elim hq
    | cont => exact False.elim hq
/-- repr([b, c]) -/
def shown2 (b c : Bool) : Str := (PyData.list [.bool b, .bool c]).shown
theorem cr_repr2 (hgd : X.A.guards = some []) (hu : X.A.units + 64 < cLine) : CallR X (.builtin "repr") (fun xs H Q => ∃ (b c : Bool) (v : V), xs = [v] ∧ Dp X.K H v (.list [.bool b, .bool c]) ∧ Q (.str (shown2 b c)) H) := by
  intro pins s σ H xs us Q I r h
  obtain ⟨b, c, v, rfl, hd, q⟩ := h
  obtain ⟨u, rfl, ru⟩ := Vals.one r
  obtain ⟨as, hr⟩ := Dp.reads I _ v u hd ru
  cases hd with
  | lst h1 h2 =>
    cases ru
    refine repr_of_reads' hr rfl (fun z => nomatch z) hgd ?_ (fun b o e => e) (fun h' u tk hk => ⟨.str (shown2 b c), H, I.kept hk, ⟨u, rfl⟩, q⟩) ?_
    · have : (PyData.list [.bool b, .bool c]).depth ≤ 8 := by cases b <;> cases c <;> decide
      omega
    · cases b <;> cases c <;> decide +kernel
end
/-! the law's call at the end of the top -/
theorem lawG_call {P : Program} {w : World} {K : PySem.W.Frag} {mg mb : Str → Option Value} {k : Nat} {fa a : Addr} {fd : FuncData} {x : Str} {sp : Sp} {s₁ : Shared} {vs : List Value} {ns : List Int}
    (KX : K.In s₁.heap) (hns : s₁.heap.Ns mainGlobals mg) (hb : s₁.heap.Ns builtinsNs mb) (hbb : ∀ x : Str, x ≠ "__name__" → mb x = bootBuiltins x) (hlim : s₁.heap.NoLimit) (hg : s₁.gens = #[])
    (ha : s₁.heap.get? a = some { cls := .type "list", data := .seq vs.toArray }) (hi : IntsAre vs ns) (hl : ns.length ≤ sizeLine) (hr : Room k callerA)
    (F : ∀ base : Heap, K.In base → base.Ns mainGlobals mg → FnG P w K mg base k fa fd [x] sp) (hbind : ∀ (s : Shared) (u : Value), BindsTo s fd ⟨[u], []⟩ [(x, u)])
    (hsp : ∀ H : Hp, Only H → SqL K H a (ns.map V.int) → sp [.ref a] H (fun v _ => v = .bl true) fun _ _ _ => False) :
    codeAny (model P w) callerA (.call (.ref fa) ⟨[.ref a], []⟩) (fun r s' => r = .ok (.ret (.bool true)) ∧ OldK s₁.heap s'.heap ∧ s'.os = s₁.os ∧ AllBare s'.gens) s₁ := by
  have rv := vals_ints hi
  have lenV := hi.length
  have core : ∀ H : Hp, Only H → SqL K H a (ns.map V.int) → HOk P w H s₁.heap → (∀ b, H b ≠ none → b = a) → (H a ≠ none → K.lookup a = none) →
      codeAny (model P w) callerA (.call (.ref fa) ⟨[.ref a], []⟩) (fun r s' => r = .ok (.ret (.bool true)) ∧ OldK s₁.heap s'.heap ∧ s'.os = s₁.os ∧ AllBare s'.gens) s₁ := by
    intro H hO hS hok hA hK
    have base_of : ∀ {b : Addr} {o : Obj}, s₁.heap.get? b = some o → H b = none → (hidT s₁.heap H).get? b = some o := fun e n => hidT_get e n
    have noA : ∀ {b : Addr} {o : Obj} {es : Array DictEntry} {ep : Nat}, s₁.heap.get? b = some o → o.data = .dict es ep → H b = none := fun {b o es ep} e d => by
      cases q : H b with
      | none => rfl
      | some u =>
        have e' : b = a := hA b (by rw [q]; simp)
        subst e'
        rw [ha] at e
        cases e
        have d' : Data.seq vs.toArray _ = Data.dict es ep := d
        cases d'
    have nsK : ∀ {b : Addr} {m : Str → Option Value}, s₁.heap.Ns b m → (hidT s₁.heap H).Ns b m := fun {b m} ⟨o, es, ep, e, d, r⟩ => ⟨o, es, ep, base_of e (noA e d), d, r⟩
    have hKb : K.In (hidT s₁.heap H) := fun b o e => base_of (KX b o e) (by
      cases q : H b with
      | none => rfl
      | some u =>
        have e' : b = a := hA b (by rw [q]; simp)
        subst e'
        rw [hK (by rw [q]; simp)] at e
        cases e)
    have hM : Mod K mg (hidT s₁.heap H) := ⟨hKb, nsK hns, ⟨mb, nsK hb, hbb⟩, let ⟨mc, h1, h2⟩ := hlim; ⟨mc, nsK h1, h2⟩⟩
    have e0 : Env0 P w K mg (hidT s₁.heap H) callerA [] s₁ H := ⟨rfl, hM, fun b o e => of_hidT e, Nat.le_of_eq (hidT_size _ _), trivial, fun b hb => absurd (show b ∈ ([] : List Addr) from hb) (by simp), hok, .of_eq hg⟩
    refine codeAny_mono ((F _ hKb (nsK hns)).run callerA [] s₁ H ⟨[.ref a], []⟩ [.ref a] [.ref a] _ _ rfl hr e0 (hbind s₁ (.ref a)) (.cons rfl .nil) (hsp H hO hS)) fun r s' h => ?_
    cases r with
    | error e => exact False.elim h
    | ok fl =>
      cases fl with
      | next => exact False.elim h
      | brk => exact False.elim h
      | cont => exact False.elim h
      | ret u =>
        obtain ⟨v, H', os, bare, un, hok', r', q⟩ := h
        have q' : v = .bl true := q
        subst q'
        obtain rfl : u = Value.bool true := r'
        refine ⟨rfl, OldK.of_keep fun b o e => ?_, os, bare⟩
        cases q : H b with
        | none => exact un.keep b o e q (by intro z; exact absurd (show b ∈ ([] : List Addr) from z) (by simp)) (by simp)
        | some u =>
          rcases hO b with z | ⟨ob, xs, z⟩
          · rw [q] at z
            cases z
          · have z2 := un.frzs b ob _ z
            obtain ⟨e1, _⟩ := hok b _ z
            obtain ⟨e2, _⟩ := hok' b _ z2
            rw [e] at e1
            cases e1
            exact e2
  cases hk : K.lookup a with
  | some o =>
    have e := KX a o hk
    rw [ha] at e
    cases e
    refine core (fun _ => none) (fun _ => .inl rfl) (.inr ⟨_, vs.toArray, _, hk, rfl, rfl, rfl, by rw [List.size_toArray, lenV]; exact hl, by simpa using rv⟩) (fun b u z => by have z' : (none : Option HO) = some u := z; cases z') (fun b z => absurd rfl z) fun z => absurd rfl z
  | none =>
    refine core (fun b => if b = a then some (.frz { cls := .type "list", data := .seq vs.toArray } (.lst (ns.map V.int))) else none) (fun b => ?_) (.inl (.inr ⟨{ cls := .type "list", data := .seq vs.toArray }, if_pos rfl⟩)) (fun b u z => ?_) (fun b z => ?_) fun _ => hk
    · by_cases hb : b = a
      · exact .inr ⟨_, _, if_pos hb⟩
      · exact .inl (if_neg hb)
    · by_cases hb : b = a
      · have z' := (if_pos hb).symm.trans z
        cases z'
        subst hb
        exact ⟨ha, by rw [List.length_map]; exact hl, vs, _, rv, ha⟩
      · have z' := (if_neg hb).symm.trans z
        cases z'
    · by_cases hb : b = a
      · exact hb
      · exact absurd (if_neg hb) z
theorem walk_ofG {l : PySem.W.OpenLaw} {n k : Nat} {q : Program} {loose : List Str} {XP : (Str → Option Value) → Heap → Prop} {YP : World → Heap → Prop} {d : DefRec} {x : Str}
    (hn : l.most = some n) (hn2 : n ≤ sizeLine) (hdf : d.params.defaults = []) (hr : Room k callerA)
    (F : ∀ (w : World) (mg : Str → Option Value) (fa : Addr) (h : Heap), YP w h → h.Ns mainGlobals mg → mg d.name = some (.ref fa) →
      ∃ (K : PySem.W.Frag) (fd : FuncData) (sp : Sp), K.In h ∧ (∀ (s : Shared) (u : Value), BindsTo s fd ⟨[u], []⟩ [(x, u)]) ∧
        (∀ (H : Hp) (a : Addr) (ns : List Int), ns.length ≤ n → Only H → SqL K H a (ns.map V.int) → sp [.ref a] H (fun v _ => v = .bl true) fun _ _ _ => False) ∧
        ∀ base : Heap, K.In base → base.Ns mainGlobals mg → FnG l.prog w K mg base k fa fd [x] sp) :
    PySem.W.WalkO q loose XP YP l.row.toRowW d [] (fun f vs => PySem.call f vs) := by
  refine Att.attach_call hn hdf fun w s₀ s₁ mg mb fa o pm cd doc a vs ns G Y ho hd hcd hmg hobj hints hlen hg => ?_
  obtain ⟨K, fd, sp, KX, hb, hsp, hF⟩ := F w mg fa _ Y G.T.g hmg
  exact lawG_call KX G.T.g G.T.b G.T.builtins G.T.nolimit hg hobj hints (Nat.le_trans hlen hn2) hr hF hb (fun H hO hS => hsp H a ns hlen hO hS)
end K85
set_option maxRecDepth 100000
set_option maxHeartbeats 4000000
/-! the law itself -/
namespace K85
open PySem L2
open C8 (Cal Met Mak pe_c pe_mk pe_mt pe_mt0 pe_gc)
local macro_rules | `(tactic| walk_at "sy1") => `(tactic| with_reducible first
  | refine r_seq ?_ | refine r_if ?_ | refine r_ret ?_ | refine r_retN ?_ | refine r_asg ?_ | refine r_drop ?_ | refine r_brk ?_ | refine r_cont ?_ | refine r_fld ?_ | refine r_dput ?_ | refine r_for ?_ | refine r_next ?_
  | refine g_name ?_ | refine g_tup ?_ | refine g_unl ?_ | refine g_cons ?_ | refine g_nil ?_
  | refine t_test ?_ | refine t_B ?_ | refine t_not ?_ | refine t_and ?_ | refine t_or ?_ | refine t_yes ?_
  | refine e_var rfl ?_ | refine e_int ?_ | refine e_str ?_ | refine e_bl ?_ | refine e_non ?_ | refine e_ref ?_ | refine e_op ?_ | refine e_un ?_ | refine e_andV ?_ | refine e_orV ?_ | refine e_notV ?_ | refine e_if ?_ | refine e_isN ?_ | refine e_notN ?_
  | refine e_tup ?_ | refine e_fld ?_ | refine e_call0 ?_ | refine e_meth0 ?_ | refine e_cb ?_ | refine e_bm ?_ | refine e_dget ?_ | refine e_dget1 ?_ | refine e_din ?_ | refine e_dnotin ?_ | refine e_chain ?_ | refine e_fcall ?_ | refine e_sm ?_
  | refine a_nil ?_ | refine a_cons ?_ | refine i_list ?_ | refine i_tup ?_ | refine i_seq ?_ | refine i_rng1 ?_ | refine i_str ?_
  | refine s_none ?_ | refine s_some ?_ | refine e_slL ?_ | refine e_slT ?_
  | refine o_II ?_ | refine o_IB ?_)
local macro_rules | `(tactic| walk_at "sy") => `(tactic| repeat (first | walk_at "sy1" | refine ⟨_, rfl, ?_⟩ | refine ⟨(rfl : List.lookup _ _ = none), ?_⟩))
local macro_rules | `(tactic| walk_at "eqF") => `(tactic| (refine o_eq rfl rfl rfl ?_; walk_at "sy"; refine iF (by decide +kernel) ?_; walk_at "sy"))
local macro_rules | `(tactic| walk_at "eqT") => `(tactic| (refine o_eq rfl rfl rfl ?_; walk_at "sy"; refine iT (by decide +kernel) ?_; walk_at "sy"))
local macro_rules | `(tactic| walk_at "pureEnd") => `(tactic| (rintro d M' ⟨rfl, rfl⟩))
abbrev s__law_same : Stmt := top 52
theorem sc__law_same : FnScope ["_law_found", "_law_due"] ["_law_found", "_law_due"] (defScope s__law_same) := ⟨rfl, rfl, rfl, by decide +kernel, rfl, by decide +kernel, by decide +kernel⟩
abbrev s_law : Stmt := top 64
theorem sc_law : FnScope ["_law_script", "_law_stream", "_law_names_here", "_law_words", "_law_many", "_law_one", "_law_piles", "_law_other", "_law_worlds", "_law_won", "_law_joined", "_law_goals", "_law_both", "_law_either", "_law_state", "_law_parts_won"] ["_law_script"] (defScope s_law) := ⟨rfl, rfl, rfl, by decide +kernel, rfl, by decide +kernel, by decide +kernel⟩
abbrev S_same : FS := ⟨Bool × Bool, fun q ds _ _ => ds = [.lst (dBls [q.1, q.2]), .lst (dBls [q.1, q.2])], fun q M d M' => M = M' ∧ d = .b true⟩
section
variable {L : Lk} {M : Mm} {K : PySem.W.Frag} {P : Dt → Mm → Prop}
theorem c_repr2 {b c : Bool} {x : Dt} (hx : vw M x = .lst (dBls [b, c])) (k : P (.s (shown2 b c)) M) : Cb L M (fun xs H Q => ∃ (b c : Bool) (v : V), xs = [v] ∧ Dp K H v (.list [.bool b, .bool c]) ∧ Q (.str (shown2 b c)) H) [x] P := fun H0 H vs Q s rs q => by
  obtain ⟨v, rfl, r1⟩ := one_rep rs
  obtain ⟨a, xs, rfl, ha, hr⟩ := s.lst r1 hx
  have := repL_bls hr
  subst this
  exact ⟨b, c, .ref a, rfl, .lst (.inl (.inl ha)) (.cons (.bl b) (.cons (.bl c) .nil)), q _ _ M H0 H (Same.refl _) s (by unfold Rep; rfl) k⟩
end
section
variable {P : Program} {w : World} {K : PySem.W.Frag} {mg : Str → Option Value} {base : Heap}
theorem ok_same (T : Tx K mg) (D : Df K mg "_law_same" s__law_same) : CalG P w K mg base 1 "_law_same" S_same.sp := by
  refine calG_sym D sc__law_same (fun _ _ _ _ _ _ us hl => match us, hl with | [_, _], _ => rfl) (fun a ds L M h => by rw [show ds = _ from h]; rfl) (fun f cdv A outer s H E hgd hr => ⟨_, pss_one (ps_ret (pe_cmpR op_eq (pe_callB (cr_repr2 hgd (hu64 hr)) (by rfl) T.f_repr (by decide +kernel) (pa_cons (pv 0) pa_nil)) (pe_callB (cr_repr2 hgd (hu64 hr)) (by rfl) T.f_repr (by decide +kernel) (pa_cons (pv 1) pa_nil)) (nomark _))), fun (b, c) ds L M h => ?_⟩)
  have h : ds = [.lst (dBls [b, c]), .lst (dBls [b, c])] := h
  subst h
  walk_at "sy"
  refine c_repr2 rfl ?_
  walk_at "sy"
  refine c_repr2 rfl ?_
  refine o_eq rfl rfl rfl ?_
  refine ⟨rfl, ?_⟩
  show Dt.b (decide (V.str (shown2 b c) = V.str (shown2 b c))) = _
  rw [decide_eq_true rfl]
end
theorem repL_of_ints {H : Hp} : ∀ (is : List Int), RepL H (dInts is) (is.map .int)
  | [] => repL_nil
  | i :: is => repL_cons (by unfold Rep; rfl) (repL_of_ints is)
section
variable {K : PySem.W.Frag}
abbrev rListOf (K : PySem.W.Frag) : List V → Hp → VK → Prop := fun xs H Q => ∃ p ys, xs = [V.ref p] ∧ (SqL K H p ys ∨ SqT K H p ys) ∧ ∀ l, H l = none → Q (.ref l) (upd H l (.lst ys))
abbrev L0 : Lk := fun _ => none
/-- the law's stream, laid from the script -/
theorem first_stm {a : Addr} {ns : List Int} {H : Hp} {N : List Str} {us : TS} {Q : VK} (hS : SqL K H a (ns.map V.int)) (h : ∀ p l, p ≠ l → Run L0 ((startG N [.adr a]).set 1 (some (.adr p))) (mset (mset nom l (.lst (dInts ns))) p (.lst [.adr l, .i 0, .i 0, .i 0])) us { nx := fun _ _ => False, rt := fun d _ => d = .b true })
    (hQ : ∀ H', Q (.bl true) H') :
    tSeq (tAsg (tLst (tCons (tCB (rListOf K) (tCons (tVar 0) tNil)) (tCons (tC (.int 0)) (tCons (tC (.int 0)) (tCons (tC (.int 0)) tNil))))) (gName 1)) us { nx := fun _ H' => Q .non H', rt := Q } (L2.start N [.ref a]) H := by
  have sv0 : SV L0 nom (fun _ => none) H := ⟨(fun _ _ e => nomatch e), (fun _ _ e => nomatch e), (fun _ _ e => nomatch e)⟩
  have sg0 : SG (startG N [.adr a]) (L2.start N [.ref a]) (fun _ => none) := sg_start (repL_one (by unfold Rep; rfl))
  refine ⟨_, rfl, a, ns.map V.int, rfl, .inl hS, fun l hl => ?_⟩
  have sv1 : SV L0 (mset nom l (.lst (dInts ns))) (fun _ => none) (upd H l (.lst (ns.map V.int))) := sv0.newM hl ⟨_, rfl, repL_of_ints ns⟩
  refine ⟨(show (4 : Nat) ≤ sizeLine by decide), fun p hp => ?_⟩
  have sv2 := sv1.newM (d := .lst [.adr l, .i 0, .i 0, .i 0]) (u := .lst [.ref l, .int 0, .int 0, .int 0]) hp ⟨_, rfl, by
    refine repL_cons ?_ (repL_cons ?_ (repL_cons ?_ (repL_one ?_))) <;> (unfold Rep; rfl)⟩
  refine h p l (fun z => by rw [z, upd_same] at hp; cases hp) _ _ _ _ sv2 (sg0.set 1 (by unfold Rep; rfl)) ⟨(fun _ _ _ _ _ _ _ _ z => z.elim), (fun v d M' H0' H' e s' rr z => ?_), (fun _ _ _ _ _ _ _ _ z => z.elim), (fun _ _ _ _ _ _ _ _ z => z.elim)⟩
  subst z
  unfold Rep at rr
  subst rr
  exact hQ H'
end
theorem cut6 {a b c d e f : Str} {m : Nat} (h : 1 ≤ m ∧ m ≤ 3) : ∃ w1 w2, cutD (dStrs [a, b, c, d, e, f]) none (some ((m : Nat) : Int)) = dStrs w1 ∧ cutD (dStrs [a, b, c, d, e, f]) (some ((m : Nat) : Int)) (some (((m : Nat) : Int) + 2)) = dStrs w2 ∧ (w1 ++ w2).Sublist [a, b, c, d, e, f] ∧ w1.length ≤ 3 ∧ w2.length ≤ 3 := by
  rcases (show m = 1 ∨ m = 2 ∨ m = 3 by omega) with rfl | rfl | rfl
  · exact ⟨[a], [b, c], rfl, rfl, by simp, by simp, by simp⟩
  · exact ⟨[a, b], [c, d], rfl, rfl, by simp, by simp, by simp⟩
  · exact ⟨[a, b, c], [d, e], rfl, rfl, by simp, by simp, by simp⟩
theorem jn_of {h1 h2 : Hf} (o1 : HfOk h1) (o2 : HfOk h2) (hd : ∀ x ∈ h1.f ++ h1.pl ++ h1.r, x ∉ h2.f ++ h2.pl ++ h2.r) (hw : (h1.rows.map (·.1) ++ h2.rows.map (·.1)).Nodup) : Jn (hWd h1) (hWd h2) where
  l := o1.wd
  r := o2.wd
  nd := List.nodup_append.mpr ⟨o1.nd, o2.nd, fun x hx y hy e => hd x hx (e ▸ hy)⟩
  j := by
    have hn : (namesW (hWd h1) ++ namesW (hWd h2)).Nodup := List.nodup_append.mpr ⟨o1.nd, o2.nd, fun x hx y hy e => hd x hx (e ▸ hy)⟩
    have hW := join_ok o1.nms o2.nms hn
    have l1 := o1.len
    have l2 := o2.len
    have s1 := o1.sl
    have s2 := o2.sl
    simp only [List.length_append] at l1 l2
    refine ⟨⟨hW.1, hW.2.1, ?_, ?_, ?_⟩, fun q hq => ?_, ?_, fun q hq => ?_, ?_⟩
    · show ((h1.f ++ h2.f) ++ (h1.pl ++ h2.pl) ++ (h1.r ++ h2.r)).length ≤ 8
      simp only [List.length_append]
      omega
    · show (h1.pl ++ h2.pl).length ≤ 2
      obtain ⟨c1, e1⟩ := o1.cn
      obtain ⟨c2, e2⟩ := o2.cn
      have e1 := congrArg List.length e1
      have e2 := congrArg List.length e2
      simp only [List.length_append, List.length_cons, List.length_nil] at e1 e2 ⊢
      omega
    · show (h1.f ++ h2.f).length + (h1.pl ++ h2.pl).length ≤ 4
      simp only [List.length_append]
      omega
    · rcases List.mem_append.mp (show q ∈ (hWd h1).table ++ (hWd h2).table from hq) with hq | hq
      · have k := o1.wd.act q hq
        refine ⟨k.ok, fun o ho z hz => ?_, fun x hx => ?_, k.dep, ?_⟩
        · rcases k.ch o ho z hz with ⟨h, h'⟩ | ⟨h, h'⟩ | ⟨h, h'⟩
          · exact .inl ⟨List.mem_append_left _ h, h'⟩
          · exact .inr (.inl ⟨List.mem_append_left _ h, h'⟩)
          · exact .inr (.inr ⟨List.mem_append_left _ h, h'⟩)
        · rcases List.mem_append.mp (show x ∈ h1.f ++ h1.pl from k.need x hx) with h | h
          · exact List.mem_append_left _ (List.mem_append_left _ h)
          · exact List.mem_append_right _ (List.mem_append_left _ h)
        · obtain ⟨o, ho, hf⟩ := k.free
          refine ⟨o, ho, ?_⟩
          show (h1.r ++ h2.r).any _ = false
          rw [List.any_append, Bool.or_eq_false_iff]
          refine ⟨hf, List.any_eq_false.mpr fun x hx hg => ?_⟩
          have := ch_names (get_in k ho (of_decide_eq_true hg))
          exact hd x this (List.mem_append_right _ hx)
      · have k := o2.wd.act q hq
        refine ⟨k.ok, fun o ho z hz => ?_, fun x hx => ?_, k.dep, ?_⟩
        · rcases k.ch o ho z hz with ⟨h, h'⟩ | ⟨h, h'⟩ | ⟨h, h'⟩
          · exact .inl ⟨List.mem_append_right _ h, h'⟩
          · exact .inr (.inl ⟨List.mem_append_right _ h, h'⟩)
          · exact .inr (.inr ⟨List.mem_append_right _ h, h'⟩)
        · rcases List.mem_append.mp (show x ∈ h2.f ++ h2.pl from k.need x hx) with h | h
          · exact List.mem_append_left _ (List.mem_append_right _ h)
          · exact List.mem_append_right _ (List.mem_append_right _ h)
        · obtain ⟨o, ho, hf⟩ := k.free
          refine ⟨o, ho, ?_⟩
          show (h1.r ++ h2.r).any _ = false
          rw [List.any_append, Bool.or_eq_false_iff]
          refine ⟨List.any_eq_false.mpr fun x hx hg => ?_, hf⟩
          have := ch_names (get_in k ho (of_decide_eq_true hg))
          exact hd x (List.mem_append_right _ hx) this
    · show ((h1.rows.map rAct ++ h2.rows.map rAct).map (·.1)).Nodup
      rw [List.map_append, List.map_map, List.map_map]
      exact hw
    · rcases List.mem_append.mp (show q ∈ (hWd h1).table ++ (hWd h2).table from hq) with hq | hq
      · exact o1.wd.nm q hq
      · exact o2.wd.nm q hq
    · show (h1.rows.map rAct ++ h2.rows.map rAct).length ≤ 8
      have a1 := o1.rl
      have a2 := o2.rl
      simp only [List.length_append, List.length_map]
      omega
theorem mem_ws {v : Wd} {g : Tr} {G : Gme} {p : List Str → Bool} {s : List Str} (hp : ∀ s, p s = true ↔ s ∈ goalsL v g ∨ Win G 8 (gP (goodL G)) (gP (badL G)) G.tallies s) (hs : s ∈ statesL v.seen) : s ∈ (statesL v.seen).filter p ↔ WinS v g G s := by
  rw [List.mem_filter, hp]
  unfold goalsL WinS
  rw [List.mem_filter]
  exact ⟨fun h => h.2.elim (fun h => .inl h.2) .inr, fun h => ⟨hs, h.elim (fun h => .inl ⟨hs, h⟩) .inr⟩⟩
theorem statesL_len (ns : List Str) : (statesL ns).length = 2 ^ ns.length := by
  unfold statesL
  have key : ∀ (l : List (List Str)), (ns.foldl stepS l).length = 2 ^ ns.length * l.length := by
    induction ns with
    | nil => intro l; simp
    | cons n ns ih =>
      intro l
      rw [List.foldl_cons, ih, stepS_len, List.length_cons, Nat.pow_succ]
      rw [Nat.mul_assoc]
  rw [key]
  simp
theorem filter_len {α : Type} {p q : α → Bool} : ∀ l : List α, (∀ x ∈ l, p x = true → q x = true) → (l.filter p).length ≤ (l.filter q).length := fun l h => by
  rw [← List.countP_eq_length_filter, ← List.countP_eq_length_filter]
  exact List.countP_mono_left h
abbrev lawSp (K : PySem.W.Frag) : Sp := fun vs H Q _ => ∃ (a : Addr) (ns : List Int), vs = [.ref a] ∧ SqL K H a (ns.map V.int) ∧ ∀ H', Q (.bl true) H'
section
variable {P : Program} {w : World} {K : PySem.W.Frag} {mg : Str → Option Value} {base : Heap}
theorem ok_law (T : Tx K mg) {E0 : Addr} (cN : Cal P w K mg base 3 "_law_names" S_names.sp []) (cD : Cal P w K mg base 1 "_law_draw" S_draw.sp []) (cH : Cal P w K mg base 6 "_law_half" S_half.sp []) (cM : Cal P w K mg base 12 "_law_made" (S_made K).sp []) (cS : Cal P w K mg base 13 "_law_set" (S_set K).sp [])
    (cW : Cal P w K mg base 22 "won_states" (S_ws K E0).sp [.ref E0]) (dOr : Dun P w K mg base 6 (cl K "World") "__or__" (S_Wor K).sp) (cB : Cal P w K mg base 7 "_law_built" (S_built K 3).sp []) (mNe : Smt P w K mg base 3 (cl K "Condition") "never" (S_Cnever K).sp) (mAl : Smt P w K mg base 3 (cl K "Condition") "always" (S_Calways K).sp)
    (dAn : Dun P w K mg base 3 (cl K "Condition") "__and__" (S_Cand K).sp) (dOc : Dun P w K mg base 3 (cl K "Condition") "__or__" (S_Cor K).sp) (kT : Mak P w K mg base 9 "Task" (cl K "Task") (S_Tinit K).sp []) (mS : Met P w K mg base 2 (cl K "World") "states" (S_states K).sp []) (cP : Cal P w K mg base 2 "_law_part" S_part.sp [])
    (cSm : CalG P w K mg base 1 "_law_same" S_same.sp) (dWe : Dun P w K mg base 11 (cl K "World") "__eq__" (S_Weq K).sp) {f : Addr} {fd : FuncData} (F : FunD K "law" "law" (defArgs s_law) (defBody s_law) (defScope s_law) [] [] f fd) : FnG P w K mg base 23 f fd ["_law_script"] (lawSp K) := by
  refine fnG_of F sc_law (fun vs H Q E h => by obtain ⟨a, ns, rfl, _⟩ := h; rfl) (fun cdv A outer s H vs Q E hgd hr h => ?_)
  refine ⟨_, PSs.nox (pss_cons (ps_set (i := 1) sc_law.nd rfl (Or.inl rfl) (pe_lst (pa_cons (pe_callTy call_list_of (by rfl) T.f_list (by decide +kernel) (pa_cons (pv 0) pa_nil)) (pa_cons pe_int (pa_cons pe_int (pa_cons pe_int pa_nil)))))) (pss_cons (ps_set (i := 2) sc_law.nd rfl (Or.inl rfl) (pe_c cN hr (by omega) rfl (pa_cons (pv 1) (pa_cons pe_int (pa_cons (pe_lst pa_nil) pa_nil))))) (pss_cons (ps_set (i := 3) sc_law.nd rfl (Or.inl rfl) (pe_c cN hr (by omega) rfl (pa_cons (pv 1) (pa_cons pe_int (pa_cons (pe_lst pa_nil) pa_nil))))) (pss_cons (ps_set (i := 4) sc_law.nd rfl (Or.inl rfl) (pe_op op_add pe_int (pe_c cD hr (by omega) rfl (pa_cons (pv 1) (pa_cons pe_int pa_nil))))) (pss_cons (ps_set (i := 5) sc_law.nd rfl (Or.inl rfl) (pe_c cH hr (by omega) rfl (pa_cons (pv 1) (pa_cons (pe_slice sl_list (pv 2) po_none (po_some pe_int)) (pa_cons (pe_slice sl_list (pv 3) po_none (po_some (pv 4))) (pa_cons pe_int (pa_cons pe_int pa_nil))))))) (pss_cons (ps_set (i := 6) sc_law.nd rfl (Or.inl rfl) (pe_c cD hr (by omega) rfl (pa_cons (pv 1) (pa_cons pe_int pa_nil)))) (pss_cons (ps_set (i := 7) sc_law.nd rfl (Or.inl rfl) (pe_c cH hr (by omega) rfl (pa_cons (pv 1) (pa_cons (pe_slice sl_list (pv 2) (po_some pe_int) po_none) (pa_cons (pe_slice sl_list (pv 3) (po_some (pv 4)) (po_some (pe_op op_add (pv 4) pe_int))) (pa_cons (pv 6) (pa_cons (pe_op op_sub pe_int (pv 6)) pa_nil))))))) (pss_cons (ps_set (i := 8) sc_law.nd rfl (Or.inl rfl) (pe_lst (pa_cons (pe_c cM hr (by omega) rfl (pa_cons (pv 5) pa_nil)) (pa_cons (pe_c cM hr (by omega) rfl (pa_cons (pv 7) pa_nil)) pa_nil)))) (pss_cons (ps_set (i := 9) sc_law.nd rfl (Or.inl rfl) (pe_lst (pa_cons (pe_c cW hr (by omega) rfl (pa_cons (pe_c cS hr (by omega) rfl (pa_cons (pv 5) pa_nil)) pa_nil)) (pa_cons (pe_c cW hr (by omega) rfl (pa_cons (pe_c cS hr (by omega) rfl (pa_cons (pv 7) pa_nil)) pa_nil)) pa_nil)))) (pss_cons (ps_set (i := 10) sc_law.nd rfl (Or.inl rfl) (pe_op (op_orO dOr hr (by omega) T.s_Wd) (pe_ix ix_list (pv 8) pe_int (fun _ _ => rfl)) (pe_ix ix_list (pv 8) pe_int (fun _ _ => rfl)))) (pss_cons (ps_set (i := 11) sc_law.nd rfl (Or.inl rfl) (pe_lst (pa_cons (pe_c cB hr (by omega) rfl (pa_cons (pe_dget (hu_of hr) (pv 5) pe_str (fun _ _ => rfl)) pa_nil)) (pa_cons (pe_c cB hr (by omega) rfl (pa_cons (pe_dget (hu_of hr) (pv 7) pe_str (fun _ _ => rfl)) pa_nil)) pa_nil)))) (pss_cons (ps_set (i := 12) sc_law.nd rfl (Or.inl rfl) (pe_c cW hr (by omega) rfl (pa_cons (pe_mk kT hr (by omega) rfl (pa_cons (pv 10) (pa_cons (pe_st0 mNe hr (by omega) (pe_gr rfl T.g_Condition)) (pa_cons (pe_op (op_andO dAn hr (by omega) T.s_Cond) (pe_ix ix_list (pv 11) pe_int (fun _ _ => rfl)) (pe_ix ix_list (pv 11) pe_int (fun _ _ => rfl))) pa_nil)))) pa_nil))) (pss_cons (ps_set (i := 13) sc_law.nd rfl (Or.inl rfl) (pe_c cW hr (by omega) rfl (pa_cons (pe_mk kT hr (by omega) rfl (pa_cons (pv 10) (pa_cons (pe_st0 mAl hr (by omega) (pe_gr rfl T.g_Condition)) (pa_cons (pe_op (op_orO dOc hr (by omega) T.s_Cond) (pe_ix ix_list (pv 11) pe_int (fun _ _ => rfl)) (pe_ix ix_list (pv 11) pe_int (fun _ _ => rfl))) pa_nil)))) pa_nil))) (pss_cons (ps_for PassesOwn.never rfl (pi_list (pe_mt0 mS hr (by omega) (pv 10))) (pg_name (i := 14) sc_law.nd rfl (Or.inl rfl)) (pss_cons (ps_set (i := 15) sc_law.nd rfl (Or.inl rfl) (pe_lst (pa_cons (pe_cmpR (op_inD (hu65 hr)) (pe_c cP hr (by omega) rfl (pa_cons (pv 5) (pa_cons (pv 14) pa_nil))) (pe_ix ix_list (pv 9) pe_int (fun _ _ => rfl)) rfl) (pa_cons (pe_cmpR (op_inD (hu65 hr)) (pe_c cP hr (by omega) rfl (pa_cons (pv 7) (pa_cons (pv 14) pa_nil))) (pe_ix ix_list (pv 9) pe_int (fun _ _ => rfl)) rfl) pa_nil)))) (pss_one (ps_if (pt_not (pt_val (pe_cG cSm hgd hr (by omega) rfl (pa_cons (pe_lst (pa_cons (pe_cmpR (op_inD (hu65 hr)) (pv 14) (pv 12) rfl) (pa_cons (pe_cmpR (op_inD (hu65 hr)) (pv 14) (pv 13) rfl) pa_nil))) (pa_cons (pe_lst (pa_cons (pe_callB (cr_all rfl) (by rfl) T.f_all (by decide +kernel) (pa_cons (pv 15) pa_nil)) (pa_cons (pe_callB (cr_any rfl) (by rfl) T.f_any (by decide +kernel) (pa_cons (pv 15) pa_nil)) pa_nil))) pa_nil))))) (pss_one (ps_ret pe_bl)) pss_nil)))) (pss_cons (ps_if (PW.pt (pw_or (pt_cmpR op_ne (pe_callB call_len_seq (by rfl) T.f_len (by decide +kernel) (pa_cons (pe_mt0 mS hr (by omega) (pv 10)) pa_nil)) pe_int (nomark _)) (pw_or1 (pt_cmpR op_gt (pe_callB call_len_seq (by rfl) T.f_len (by decide +kernel) (pa_cons (pv 12) pa_nil)) (pe_callB call_len_seq (by rfl) T.f_len (by decide +kernel) (pa_cons (pv 13) pa_nil)) (nomark _))))) (pss_one (ps_ret pe_bl)) pss_nil) (pss_one (ps_ret (pe_cmpR (op_eqWs dWe hr (by omega)) (pv 8) (pe_lst (pa_cons (pe_c cM hr (by omega) rfl (pa_cons (pv 5) pa_nil)) (pa_cons (pe_c cM hr (by omega) rfl (pa_cons (pv 7) pa_nil)) pa_nil))) (nomark _))))))))))))))))))), ?_⟩
  obtain ⟨a0, ns, rfl, hS, hQ⟩ := h
  refine first_stm (K := K) hS (fun p sc hne => ?_) hQ
  have hS0 : Stm (mset (mset nom sc (.lst (dInts ns))) p (.lst [.adr sc, .i 0, .i 0, .i 0])) p sc 0 := ⟨ns, 0, 0, mset_same, by rw [mset_ne hne.symm, mset_same], hne, by decide, by decide⟩
  generalize mset (mset nom sc (.lst (dInts ns))) p (.lst [.adr sc, .i 0, .i 0, .i 0]) = M0 at hS0
  have hL : ∀ b, L0 b = none := fun _ => rfl
  walk_at "sy"
  refine e_lst (a_nil ⟨by simp, ?_⟩)
  walk_at "sy"
  refine ⟨(p, sc, 0, 6), ⟨rfl, hS0, by decide, by decide⟩, ?_⟩
  rintro d1 M1 ⟨xs, k1, rfl, hxl, hxn, hxm, hk1, hS1, hF1⟩
  walk_at "sy"
  refine e_lst (a_nil ⟨by simp, ?_⟩)
  walk_at "sy"
  refine ⟨(p, sc, k1, 6), ⟨rfl, by rw [← Nat.zero_add k1]; exact hS1, by omega, by decide⟩, ?_⟩
  rintro d2 M2 ⟨ws, k2, rfl, hwl, hwn, hwm, hk2, hS2, hF2⟩
  walk_at "sy"
  refine ⟨(p, sc, k1 + k2, 3), ⟨rfl, hS2, by show k1 + k2 < 100000; omega, by show 0 < 3; decide, by show 3 ≤ 1000; decide⟩, ?_⟩
  rintro d3 M3 ⟨k3, hk3, rfl, hS3, hF3⟩
  have hk3 : k3 < 3 := hk3
  have em : (1 : Int) + (k3 : Int) = ((k3 + 1 : Nat) : Int) := by omega
  walk_at "sy"
  rw [em]
  walk_at "sy"
  have hxl : xs.length = 6 := hxl
  have hwl : ws.length = 6 := hwl
  match xs, hxl, ws, hwl with
  | [a, b, c, d, e, g], _, [wa, wb, wc, wd, we, wg], _ =>
  obtain ⟨w1, w2, ew1, ew2, hws, hw1, hw2⟩ := cut6 (a := wa) (b := wb) (c := wc) (d := wd) (e := we) (f := wg) (m := k3 + 1) (by omega)
  have ex1 : cutD (dStrs [a, b, c, d, e, g]) none (some 3) = dStrs [a, b, c] := rfl
  have ex2 : cutD (dStrs [a, b, c, d, e, g]) (some 3) none = dStrs [d, e, g] := rfl
  have hsx1 : [a, b, c].Sublist [a, b, c, d, e, g] := by simp
  have hsx2 : [d, e, g].Sublist [a, b, c, d, e, g] := List.drop_sublist 3 [a, b, c, d, e, g]
  have hww : (w1 ++ w2).Nodup := hws.nodup hwn
  have hwo : ∀ x ∈ w1 ++ w2, NameOk x := fun x hx => hwm x (hws.subset hx)
  rw [ex1, ew1]
  refine ⟨(p, sc, k1 + k2 + 1, [a, b, c], w1, 1), ⟨rfl, hS3, by omega, rfl, hsx1.nodup hxn, fun x hx => hxm x (hsx1.subset hx), hw1, (List.nodup_append.mp hww).1, fun x hx => hwo x (List.mem_append_left _ hx), Nat.le_refl 1⟩, ?_⟩
  rintro d4 M4 ⟨h1, k4, rfl, ho1, hin1, hr1, hk4, hS4, hF4⟩
  walk_at "sy"
  refine ⟨(p, sc, k1 + k2 + 1 + k4, 2), ⟨rfl, hS4, by show k1 + k2 + 1 + k4 < 100000; omega, by show 0 < 2; decide, by show 2 ≤ 1000; decide⟩, ?_⟩
  rintro d5 M5 ⟨k5, hk5, rfl, hS5, hF5⟩
  have hk5 : k5 < 2 := hk5
  walk_at "sy"
  rw [ex2, ew2]
  refine ⟨(p, sc, k1 + k2 + 1 + k4 + 1, [d, e, g], w2, k5), ⟨rfl, hS5, by omega, rfl, hsx2.nodup hxn, fun x hx => hxm x (hsx2.subset hx), hw2, (List.nodup_append.mp hww).2.1, fun x hx => hwo x (List.mem_append_right _ hx), by omega⟩, ?_⟩
  rintro d6 M6 ⟨h2, k6, rfl, ho2, hin2, hr2, hk6, hS6, hF6⟩
  clear hS0 hS1 hS2 hS3 hS4 hS5 hS6 hF1 hF2 hF3 hF4 hF5 hF6
  have jn : Jn (hWd h1) (hWd h2) := jn_of ho1 ho2 (fun x hx hy => by
    have q1 : x ∈ [a, b, c] := hin1 x hx
    have q2 : x ∈ [d, e, g] := hin2 x hy
    exact (List.nodup_append.mp (show ([a, b, c] ++ [d, e, g]).Nodup from hxn)).2.2 x q1 x q2 rfl) (by
    rw [show h1.rows.map (·.1) = w1 from hr1, show h2.rows.map (·.1) = w2 from hr2]
    exact hww)
  have hE : ∀ H, RepL H [.adr E0] [.ref E0] := fun H => repL_one (by unfold Rep; rfl)
  walk_at "sy"
  refine e_lst ?_
  walk_at "sy"
  refine ⟨h1, ⟨rfl, ho1, hL⟩, ?_⟩
  rintro d7 M7 ⟨rfl, rfl⟩
  walk_at "sy"
  refine ⟨h2, ⟨rfl, ho2, hL⟩, ?_⟩
  rintro d8 M8 ⟨rfl, rfl⟩
  walk_at "sy"
  refine ⟨by simp, ?_⟩
  walk_at "sy"
  refine e_lst (a_cons (e_call hE ?_))
  walk_at "sy"
  refine ⟨h1, ⟨rfl, ho1, hL⟩, ?_⟩
  rintro d9 M9 ⟨rfl, rfl⟩
  walk_at "sy"
  refine ⟨(hWd h1, .alw, h1.g), ⟨rfl, ho1.wd, Nat.le_trans ho1.gd (by decide), hL⟩, ?_⟩
  rintro d10 M10 ⟨rfl, G1, p1, hG1, rfl, hp1⟩
  refine a_cons (e_call hE ?_)
  walk_at "sy"
  refine ⟨h2, ⟨rfl, ho2, hL⟩, ?_⟩
  rintro d9 M9 ⟨rfl, rfl⟩
  walk_at "sy"
  refine ⟨(hWd h2, .alw, h2.g), ⟨rfl, ho2.wd, Nat.le_trans ho2.gd (by decide), hL⟩, ?_⟩
  rintro d10 M10 ⟨rfl, G2, p2, hG2, rfl, hp2⟩
  walk_at "sy"
  refine ⟨by simp, ?_⟩
  walk_at "sy"
  have hs1 : ∀ x ∈ h1.g.names, x ∈ (joinW (hWd h1) (hWd h2)).seen := fun x hx => jn.sl.seen (ho1.gn x hx)
  have hs2 : ∀ x ∈ h2.g.names, x ∈ (joinW (hWd h1) (hWd h2)).seen := fun x hx => jn.sr.seen (ho2.gn x hx)
  have gd1 := ho1.gd
  have gd2 := ho2.gd
  have gl1 := ho1.gl
  have gl2 := ho2.gl
  have hcN : CondIn (joinW (hWd h1) (hWd h2)) .nev := ⟨by show (1 : Nat) ≤ 5; decide, by show (0 : Nat) ≤ 32; decide, fun y hy => by simp [Tr.names] at hy⟩
  have hcA : CondIn (joinW (hWd h1) (hWd h2)) .alw := ⟨by show (1 : Nat) ≤ 5; decide, by show (0 : Nat) ≤ 32; decide, fun y hy => by simp [Tr.names] at hy⟩
  have hcB : CondIn (joinW (hWd h1) (hWd h2)) (.an h1.g h2.g) := ⟨by show max h1.g.depth h2.g.depth + 1 ≤ 5; omega, by show (h1.g.names ++ h2.g.names).length ≤ 32; rw [List.length_append]; omega, fun y hy => (List.mem_append.mp (show y ∈ h1.g.names ++ h2.g.names from hy)).elim (hs1 y) (hs2 y)⟩
  have hcE : CondIn (joinW (hWd h1) (hWd h2)) (.or h1.g h2.g) := ⟨by show max h1.g.depth h2.g.depth + 1 ≤ 5; omega, by show (h1.g.names ++ h2.g.names).length ≤ 32; rw [List.length_append]; omega, fun y hy => (List.mem_append.mp (show y ∈ h1.g.names ++ h2.g.names from hy)).elim (hs1 y) (hs2 y)⟩
  refine o_ixL (n := 0) rfl rfl ?_
  walk_at "sy"
  refine o_ixL (n := 1) rfl rfl ?_
  refine o_own2 ⟨_, rfl⟩ ⟨_, rfl⟩ ⟨(hWd h1, hWd h2), ⟨rfl, ho1.wd, ho2.wd, jn.nd, jn.j.nd, hL⟩, ?_⟩
  rintro d M ⟨rfl, rfl⟩
  walk_at "sy"
  refine e_lst ?_
  walk_at "sy"
  refine .inl ⟨_, _, rfl, rfl, ?_⟩
  refine ⟨_, rfl, ?_⟩
  walk_at "sy"
  refine ⟨h1.g, ⟨rfl, ho1.gd, fun y hy => ho1.nm y (List.mem_append_left _ (ho1.gn y hy))⟩, ?_⟩
  rintro d M ⟨rfl, rfl⟩
  walk_at "sy"
  refine .inl ⟨_, _, rfl, rfl, ?_⟩
  refine ⟨_, rfl, ?_⟩
  walk_at "sy"
  refine ⟨h2.g, ⟨rfl, ho2.gd, fun y hy => ho2.nm y (List.mem_append_left _ (ho2.gn y hy))⟩, ?_⟩
  rintro d M ⟨rfl, rfl⟩
  walk_at "sy"
  refine ⟨by simp, ?_⟩
  walk_at "sy"
  refine e_call hE (a_cons (e_init (fun _ => repL_nil) ?_))
  walk_at "sy"
  refine ⟨rfl, ?_⟩
  walk_at "sy"
  refine ⟨(), ⟨rfl, trivial⟩, ?_⟩
  rintro d M ⟨rfl, rfl⟩
  walk_at "sy"
  refine o_ixL (n := 0) rfl rfl ?_
  walk_at "sy"
  refine o_ixL (n := 1) rfl rfl ?_
  refine o_own2 ⟨_, rfl⟩ ⟨_, rfl⟩ ⟨(h1.g, h2.g), ⟨rfl, trivial⟩, ?_⟩
  rintro d M ⟨rfl, rfl⟩
  walk_at "sy"
  refine ⟨(joinW (hWd h1) (hWd h2), .nev, .an h1.g h2.g), rfl, ⟨jn.j, hcN, hcB, hL⟩, ?_⟩
  walk_at "sy"
  refine ⟨(joinW (hWd h1) (hWd h2), .nev, .an h1.g h2.g), ⟨rfl, jn.j, hcB.1, hL⟩, ?_⟩
  rintro d M ⟨rfl, GB, pB, hGB, rfl, hpB⟩
  walk_at "sy"
  refine e_call hE (a_cons (e_init (fun _ => repL_nil) ?_))
  walk_at "sy"
  refine ⟨rfl, ?_⟩
  walk_at "sy"
  refine ⟨(), ⟨rfl, trivial⟩, ?_⟩
  rintro d M ⟨rfl, rfl⟩
  walk_at "sy"
  refine o_ixL (n := 0) rfl rfl ?_
  walk_at "sy"
  refine o_ixL (n := 1) rfl rfl ?_
  refine o_own2 ⟨_, rfl⟩ ⟨_, rfl⟩ ⟨(h1.g, h2.g), ⟨rfl, trivial⟩, ?_⟩
  rintro d M ⟨rfl, rfl⟩
  walk_at "sy"
  refine ⟨(joinW (hWd h1) (hWd h2), .alw, .or h1.g h2.g), rfl, ⟨jn.j, hcA, hcE, hL⟩, ?_⟩
  walk_at "sy"
  refine ⟨(joinW (hWd h1) (hWd h2), .alw, .or h1.g h2.g), ⟨rfl, jn.j, hcE.1, hL⟩, ?_⟩
  rintro d M ⟨rfl, GE, pE, hGE, rfl, hpE⟩
  walk_at "sy"
  refine ⟨joinW (hWd h1) (hWd h2), ⟨⟨_, _, rfl, rfl⟩, jn.j.nms⟩, ?_⟩
  rintro d M ⟨rfl, rfl⟩
  obtain ⟨c1, hc1⟩ := ho1.cn
  obtain ⟨c2, hc2⟩ := ho2.cn
  have nx : ∀ st ∈ statesL (joinW (hWd h1) (hWd h2)).seen,
      (decide (st ∈ (statesL (joinW (hWd h1) (hWd h2)).seen).filter pB) = (decide (part (hWd h1) st ∈ (statesL (hWd h1).seen).filter p1) && decide (part (hWd h2) st ∈ (statesL (hWd h2).seen).filter p2))) ∧
      (decide (st ∈ (statesL (joinW (hWd h1) (hWd h2)).seen).filter pE) = (decide (part (hWd h1) st ∈ (statesL (hWd h1).seen).filter p1) || decide (part (hWd h2) st ∈ (statesL (hWd h2).seen).filter p2))) := fun st hst => by
    have m1 := mem_ws (s := part (hWd h1) st) hp1 (part_in _ _)
    have m2 := mem_ws (s := part (hWd h2) st) hp2 (part_in _ _)
    have mB := mem_ws (s := st) hpB hst
    have mE := mem_ws (s := st) hpE hst
    have b := both_iff jn hc1 hc2 ho1.gn ho2.gn hG1 hG2 hGB hst
    have e := either_iff jn hc1 hc2 ho1.gn ho2.gn hG1 hG2 hGE hst
    constructor
    · rw [← Bool.decide_and]
      exact decide_eq_decide.mpr (mB.trans (b.trans (and_congr m1.symm m2.symm)))
    · rw [← Bool.decide_or]
      exact decide_eq_decide.mpr (mE.trans (e.trans (or_congr m1.symm m2.symm)))
  have sJ := fun s => state_str jn.j.nms (s := s)
  have fl : ∀ {v : Wd} {q : List Str → Bool}, NmsOk v → ∀ s ∈ (statesL v.seen).filter q, ∀ z ∈ s, PyData.strOk z = true := fun hv s hs => state_str hv (List.mem_filter.mp hs).1
  refine ⟨_, rfl, fun i Γ' M' => ∃ u1 u2, Γ' = [some (.adr a0), some (.adr p), some (.lst (dStrs [a, b, c, d, e, g])), some (.lst (dStrs [wa, wb, wc, wd, we, wg])), some (.i ((k3 + 1 : Nat) : Int)), some (dHf h1), some (.i ((k5 : Nat) : Int)), some (dHf h2), some (.lst [dWd K (hWd h1), dWd K (hWd h2)]),
      some (.lst [.lst (dSts ((statesL (hWd h1).seen).filter p1)), .lst (dSts ((statesL (hWd h2).seen).filter p2))]), some (dWd K (joinW (hWd h1) (hWd h2))), some (.lst [dCond K h1.g, dCond K h2.g]), some (.lst (dSts ((statesL (joinW (hWd h1) (hWd h2)).seen).filter pB))), some (.lst (dSts ((statesL (joinW (hWd h1) (hWd h2)).seen).filter pE))), u1, u2], ⟨_, _, rfl⟩, ?_, ?_⟩
  · rintro i dd Γ' M' hd ⟨u1, u2, rfl⟩
    obtain ⟨st, hst, rfl⟩ := at_map hd
    have hst := List.mem_of_getElem? hst
    obtain ⟨n1, n2⟩ := nx st hst
    walk_at "sy"
    refine e_lst ?_
    walk_at "sy"
    refine ⟨(h1, st), ⟨rfl, ho1⟩, ?_⟩
    rintro d M ⟨rfl, rfl⟩
    walk_at "sy"
    refine o_ixL (n := 0) rfl rfl ?_
    refine o_inSts (x := part (hWd h1) st) rfl (state_str ho1.nms (part_in _ _)) (fl ho1.nms) ?_
    walk_at "sy"
    refine ⟨(h2, st), ⟨rfl, ho2⟩, ?_⟩
    rintro d M ⟨rfl, rfl⟩
    walk_at "sy"
    refine o_ixL (n := 1) rfl rfl ?_
    refine o_inSts (x := part (hWd h2) st) rfl (state_str ho2.nms (part_in _ _)) (fl ho2.nms) ?_
    walk_at "sy"
    refine ⟨by simp, ?_⟩
    walk_at "sy"
    refine e_lst ?_
    walk_at "sy"
    refine o_inSts rfl (sJ st hst) (fl jn.j.nms) ?_
    walk_at "sy"
    refine o_inSts rfl (sJ st hst) (fl jn.j.nms) ?_
    walk_at "sy"
    refine ⟨by simp, ?_⟩
    refine a_cons (e_lst ?_)
    walk_at "sy"
    refine c_all (bs := [decide (part (hWd h1) st ∈ (statesL (hWd h1).seen).filter p1), decide (part (hWd h2) st ∈ (statesL (hWd h2).seen).filter p2)]) rfl ?_
    walk_at "sy"
    refine c_any (bs := [decide (part (hWd h1) st ∈ (statesL (hWd h1).seen).filter p1), decide (part (hWd h2) st ∈ (statesL (hWd h2).seen).filter p2)]) rfl ?_
    walk_at "sy"
    refine ⟨by simp, ?_⟩
    walk_at "sy"
    refine ⟨(decide (st ∈ (statesL (joinW (hWd h1) (hWd h2)).seen).filter pB), decide (st ∈ (statesL (joinW (hWd h1) (hWd h2)).seen).filter pE)), ?_, ?_⟩
    · have ea : ([decide (part (hWd h1) st ∈ (statesL (hWd h1).seen).filter p1), decide (part (hWd h2) st ∈ (statesL (hWd h2).seen).filter p2)].all id) = decide (st ∈ (statesL (joinW (hWd h1) (hWd h2)).seen).filter pB) := by
        rw [n1]
        simp
      have eo : ([decide (part (hWd h1) st ∈ (statesL (hWd h1).seen).filter p1), decide (part (hWd h2) st ∈ (statesL (hWd h2).seen).filter p2)].any id) = decide (st ∈ (statesL (joinW (hWd h1) (hWd h2)).seen).filter pE) := by
        rw [n2]
        simp
      rw [ea, eo]
      rfl
    rintro d M ⟨rfl, rfl⟩
    refine ⟨_, rfl, iF rfl ?_⟩
    walk_at "sy"
    exact ⟨_, _, rfl⟩
  · rintro Γ' M' ⟨u1, u2, rfl⟩
    walk_at "sy"
    refine ⟨joinW (hWd h1) (hWd h2), ⟨⟨_, _, rfl, rfl⟩, jn.j.nms⟩, ?_⟩
    rintro d M ⟨rfl, rfl⟩
    walk_at "sy"
    refine c_len (.inl rfl) ?_
    walk_at "sy"
    have e16 : (dSts (statesL (joinW (hWd h1) (hWd h2)).seen)).length = 16 := by
      unfold dSts
      rw [List.length_map, statesL_len]
      have h4 : (joinW (hWd h1) (hWd h2)).seen.length = 4 := by
        show ((h1.f ++ h2.f) ++ (h1.pl ++ h2.pl)).length = 4
        have q1 := ho1.sl
        have q2 := ho2.sl
        simp only [List.length_append]
        omega
      rw [h4]
    rw [e16]
    refine o_ne rfl rfl rfl ?_
    walk_at "sy"
    refine iF rfl ?_
    walk_at "sy"
    refine c_len (.inl rfl) ?_
    walk_at "sy"
    refine c_len (.inl rfl) ?_
    walk_at "sy"
    have hle : (dSts ((statesL (joinW (hWd h1) (hWd h2)).seen).filter pB)).length ≤ (dSts ((statesL (joinW (hWd h1) (hWd h2)).seen).filter pE)).length := by
      unfold dSts
      rw [List.length_map, List.length_map]
      refine filter_len _ fun st hst hB => ?_
      obtain ⟨n1, n2⟩ := nx st hst
      have hB : decide (st ∈ (statesL (joinW (hWd h1) (hWd h2)).seen).filter pB) = true := decide_eq_true (List.mem_filter.mpr ⟨hst, hB⟩)
      rw [hB] at n1
      have n1 := n1.symm
      rw [Bool.and_eq_true] at n1
      rw [n1.1, Bool.true_or] at n2
      exact (List.mem_filter.mp (of_decide_eq_true n2)).2
    refine iF (decide_eq_false (by omega)) ?_
    walk_at "sy"
    refine e_lst ?_
    walk_at "sy"
    refine ⟨h1, ⟨rfl, ho1, hL⟩, ?_⟩
    rintro d M ⟨rfl, rfl⟩
    walk_at "sy"
    refine ⟨h2, ⟨rfl, ho2, hL⟩, ?_⟩
    rintro d M ⟨rfl, rfl⟩
    walk_at "sy"
    refine ⟨by simp, ?_⟩
    refine o_eqG (D := DList (DW K)) (d_list (f := dWd K) (as_ := [hWd h1, hWd h2]) (fun v hv => ⟨?_, hL⟩)) rfl
    simp only [List.mem_cons, List.not_mem_nil, or_false] at hv
    rcases hv with rfl | rfl
    · exact ho1.wd
    · exact ho2.wd
end
end K85
set_option maxRecDepth 100000
set_option maxHeartbeats 4000000
/-! the head's facts for the walk, the chain of promises, the end -/
namespace K85
open PySem PySem.Spec PyProof.Rows L2
open C8 (Cal Met Mak)
/-- behind the top -/
structure Hd (K : PySem.W.Frag) (mg : Str → Option Value) : Prop where
  ex : ∃ h : Heap, K.In h ∧ h.Ns mainGlobals mg ∧ obsM K = valM
theorem ba2 {a b : Bool} (h : (a && b) = true) : a = true ∧ b = true := Bool.and_eq_true_iff.mp h
theorem ins_ok {K : PySem.W.Frag} {C : Addr} (c : Cls K C) (h : insB K C = true) : C8.InsC K C := by
  unfold insB at h
  obtain ⟨h1, h⟩ := ba2 h
  obtain ⟨h2, h⟩ := ba2 h
  obtain ⟨h3, h⟩ := ba2 h
  obtain ⟨h4, h5⟩ := ba2 h
  exact ⟨c, He.eqO_ok h1, He.eqO_ok h2, of_decide_eq_true h3, of_decide_eq_true h4, of_decide_eq_true h5⟩
theorem sta_ok {K : PySem.W.Frag} {C : Addr} {m : Str} (h : staB K C m = true) : SMet K C m (He.ma K C m) (He5.wf K C "staticmethod" m) := by
  unfold staB at h
  obtain ⟨h1, h⟩ := ba2 h
  obtain ⟨h2, h⟩ := ba2 h
  obtain ⟨h3, h⟩ := ba2 h
  obtain ⟨h4, h5⟩ := ba2 h
  obtain ⟨h6, h7⟩ := He5.wrapB_ok h4
  exact ⟨h1, He.eqO_ok h2, of_decide_eq_true h3, h6, h7, h5⟩
theorem emp_ok {K : PySem.W.Frag} {a : Addr} (h : empB K a = true) : ETup K a := by
  unfold empB at h
  cases q : K.lookup a with
  | none =>
    rw [q] at h
    cases h
  | some o =>
    obtain ⟨oc, od, dt, osl⟩ := o
    rw [q] at h
    cases oc with
    | type c =>
      cases dt with
      | seq its n =>
        obtain ⟨h1, h2⟩ := ba2 (show (decide (c = "tuple") && its.toList.isEmpty) = true from h)
        exact ⟨_, its, n, q, congrArg Value.type (of_decide_eq_true h1), rfl, List.isEmpty_iff.mp h2⟩
      | _ => cases h
    | _ => cases dt <;> cases h
section
variable {K : PySem.W.Frag} {mg : Str → Option Value}
theorem fnIn_of {x qual : Str} {params : Arguments} {bd : List Stmt} {sc : Scope} {dvs : List V} {kws : List (Str × V)} {f : Addr} {fd : FuncData} (F : FunD K x qual params bd sc dvs kws f fd) : PySem.W.fnIn K f = true := by
  obtain ⟨oc, od, dV, kV, doc, pm, an, cdv, ct, osl, rfl, lk, _⟩ := F.ex
  unfold PySem.W.fnIn
  rw [lk]
theorem Hd.fact (Y : Hd K mg) (i : Nat) {f : He.Fa} (h : hfa[i]? = some f := by rfl) : f.ok K = true := by
  obtain ⟨_, _, _, c⟩ := Y.ex
  have c1 : (hfa.all fun f => f.ok K) = true := congrArg (fun z : AlM => z.1.1) c
  exact List.all_eq_true.mp c1 f (List.mem_of_getElem? h)
theorem Hd.xb (Y : Hd K mg) : exB K = true := by
  obtain ⟨_, _, _, c⟩ := Y.ex
  have c2 : (exB K && hfn.all fun d => d.ok K) = true := congrArg (fun z : AlM => z.1.2) c
  exact (ba2 c2).1
theorem Hd.def_ (Y : Hd K mg) (i : Nat) {d : He5.DefA} (h : hfn[i]? = some d := by rfl) : ∃ fd, L2.FunD K d.name d.qual d.params d.body d.scope (d.dvs K) (d.kws K) (d.at_ K) fd := by
  obtain ⟨_, _, _, c⟩ := Y.ex
  have c2 : (exB K && hfn.all fun d => d.ok K) = true := congrArg (fun z : AlM => z.1.2) c
  have e : hfn.map (fun d => He5.fnA K (d.at_ K)) = hfn.map He5.DefA.val := congrArg (fun z : AlM => z.2) c
  have e2 : (hfn.map fun d => He5.fnA K (d.at_ K))[i]? = (hfn.map He5.DefA.val)[i]? := by rw [e]
  rw [List.getElem?_map, List.getElem?_map, h] at e2
  exact He5.DefA.funD (Option.some.inj e2) (List.all_eq_true.mp (ba2 c2).2 d (List.mem_of_getElem? h))
theorem Hd.glo (Y : Hd K mg) (i : Nat) {x : Str} (h : hfa[i]? = some (.glo x) := by rfl) : mg x = some (.ref (He.ga K x)) := by
  have f := Y.fact i h
  obtain ⟨_, X, G, _⟩ := Y.ex
  exact He.glo_ok X G f
theorem Hd.free (Y : Hd K mg) (i : Nat) {x : Str} (h : hfa[i]? = some (.free x) := by rfl) : mg x = none := by
  have f := Y.fact i h
  obtain ⟨_, X, G, _⟩ := Y.ex
  exact He.free_ok X G f
theorem Hd.str (Y : Hd K mg) (i : Nat) {x z : Str} (h : hfa[i]? = some (.str x z) := by rfl) : ∃ u, mg x = some u ∧ RelV (.str z) u := by
  have f := Y.fact i h
  obtain ⟨_, X, G, _⟩ := Y.ex
  obtain ⟨t, e⟩ := He.str_ok X G f
  exact ⟨_, e, t, rfl⟩
theorem Hd.exs (Y : Hd K mg) : PySem.W.noSeq K (He.ga K "World") = true ∧ PySem.W.selfFirst K (He.ga K "Condition") = true ∧ PySem.W.selfFirst K (He.ga K "World") = true ∧ insB K (He.ga K "Condition") = true ∧ insB K (He.ga K "Outcome") = true ∧ insB K (He.ga K "Action") = true ∧ insB K (He.ga K "World") = true ∧
    staB K (He.ga K "Condition") "of" = true ∧ staB K (He.ga K "Condition") "always" = true ∧ staB K (He.ga K "Condition") "never" = true ∧ He.tupB K "RESERVED" [.str "and", .str "or", .str "not", .str "always", .str "never"] = true ∧ empB K (kwAt "won_states" "without" K) = true := by
  have h := Y.xb
  unfold exB at h
  obtain ⟨h1, h⟩ := ba2 h
  obtain ⟨h2, h⟩ := ba2 h
  obtain ⟨h3, h⟩ := ba2 h
  obtain ⟨h4, h⟩ := ba2 h
  obtain ⟨h5, h⟩ := ba2 h
  obtain ⟨h6, h⟩ := ba2 h
  obtain ⟨h7, h⟩ := ba2 h
  obtain ⟨h8, h⟩ := ba2 h
  obtain ⟨h9, h⟩ := ba2 h
  obtain ⟨h10, h⟩ := ba2 h
  obtain ⟨h11, h12⟩ := ba2 h
  exact ⟨h1, h2, h3, h4, h5, h6, h7, h8, h9, h10, h11, h12⟩
theorem d_is_name (Y : Hd K mg) : Df K mg "is_name" s_is_name := by
  obtain ⟨fd, F⟩ := Y.def_ 0
  exact ⟨_, fd, F, Y.glo 14⟩
theorem d_tree_holds (Y : Hd K mg) : Df K mg "tree_holds" s_tree_holds := by
  obtain ⟨fd, F⟩ := Y.def_ 1
  exact ⟨_, fd, F, Y.glo 15⟩
theorem d_names_in (Y : Hd K mg) : Df K mg "names_in" s_names_in := by
  obtain ⟨fd, F⟩ := Y.def_ 2
  exact ⟨_, fd, F, Y.glo 16⟩
theorem d_ascending (Y : Hd K mg) : Df K mg "ascending" s_ascending := by
  obtain ⟨fd, F⟩ := Y.def_ 3
  exact ⟨_, fd, F, Y.glo 17⟩
theorem d_sublists (Y : Hd K mg) : Df K mg "sublists" s_sublists := by
  obtain ⟨fd, F⟩ := Y.def_ 4
  exact ⟨_, fd, F, Y.glo 18⟩
theorem d_implies (Y : Hd K mg) : Df K mg "implies" s_implies := by
  obtain ⟨fd, F⟩ := Y.def_ 5
  exact ⟨_, fd, F, Y.glo 19⟩
theorem d_check_change (Y : Hd K mg) : Df K mg "check_change" s_check_change := by
  obtain ⟨fd, F⟩ := Y.def_ 6
  exact ⟨_, fd, F, Y.glo 20⟩
theorem d_check_lists (Y : Hd K mg) : Df K mg "check_lists" s_check_lists := by
  obtain ⟨fd, F⟩ := Y.def_ 7
  exact ⟨_, fd, F, Y.glo 21⟩
theorem d_copied_action (Y : Hd K mg) : Df K mg "copied_action" s_copied_action := by
  obtain ⟨fd, F⟩ := Y.def_ 8
  exact ⟨_, fd, F, Y.glo 22⟩
theorem d_sub_tuples (Y : Hd K mg) : Df K mg "sub_tuples" s_sub_tuples := by
  obtain ⟨fd, F⟩ := Y.def_ 9
  exact ⟨_, fd, F, Y.glo 23⟩
theorem d_same_world (Y : Hd K mg) : Df K mg "same_world" s_same_world := by
  obtain ⟨fd, F⟩ := Y.def_ 10
  exact ⟨_, fd, F, Y.glo 24⟩
theorem d_check_condition (Y : Hd K mg) : Df K mg "check_condition" s_check_condition := by
  obtain ⟨fd, F⟩ := Y.def_ 11
  exact ⟨_, fd, F, Y.glo 25⟩
theorem d_forced_action (Y : Hd K mg) : Df K mg "forced_action" s_forced_action := by
  obtain ⟨fd, F⟩ := Y.def_ 12
  exact ⟨_, fd, F, Y.glo 26⟩
theorem d_close_table (Y : Hd K mg) : Df K mg "close_table" s_close_table := by
  obtain ⟨fd, F⟩ := Y.def_ 13
  exact ⟨_, fd, F, Y.glo 27⟩
theorem d_falling_of (Y : Hd K mg) : Df K mg "falling_of" s_falling_of := by
  obtain ⟨fd, F⟩ := Y.def_ 14
  exact ⟨_, fd, F, Y.glo 28⟩
theorem d_won_by (Y : Hd K mg) : Df K mg "won_by" s_won_by := by
  obtain ⟨fd, F⟩ := Y.def_ 15
  exact ⟨_, fd, F, Y.glo 29⟩
theorem d_solve_game (Y : Hd K mg) : Df K mg "solve_game" s_solve_game := by
  obtain ⟨fd, F⟩ := Y.def_ 16
  exact ⟨_, fd, F, Y.glo 30⟩
theorem d__law_draw (Y : Hd K mg) : Df K mg "_law_draw" s__law_draw := by
  obtain ⟨fd, F⟩ := Y.def_ 17
  exact ⟨_, fd, F, Y.glo 31⟩
theorem d__law_pick (Y : Hd K mg) : Df K mg "_law_pick" s__law_pick := by
  obtain ⟨fd, F⟩ := Y.def_ 18
  exact ⟨_, fd, F, Y.glo 32⟩
theorem d__law_mixed (Y : Hd K mg) : Df K mg "_law_mixed" s__law_mixed := by
  obtain ⟨fd, F⟩ := Y.def_ 19
  exact ⟨_, fd, F, Y.glo 33⟩
theorem d__law_same (Y : Hd K mg) : Df K mg "_law_same" s__law_same := by
  obtain ⟨fd, F⟩ := Y.def_ 20
  exact ⟨_, fd, F, Y.glo 34⟩
theorem d__law_name (Y : Hd K mg) : Df K mg "_law_name" s__law_name := by
  obtain ⟨fd, F⟩ := Y.def_ 21
  exact ⟨_, fd, F, Y.glo 35⟩
theorem d__law_names (Y : Hd K mg) : Df K mg "_law_names" s__law_names := by
  obtain ⟨fd, F⟩ := Y.def_ 22
  exact ⟨_, fd, F, Y.glo 36⟩
theorem d__law_condition (Y : Hd K mg) : Df K mg "_law_condition" s__law_condition := by
  obtain ⟨fd, F⟩ := Y.def_ 23
  exact ⟨_, fd, F, Y.glo 37⟩
theorem d__law_built (Y : Hd K mg) : Df K mg "_law_built" s__law_built := by
  obtain ⟨fd, F⟩ := Y.def_ 24
  exact ⟨_, fd, F, Y.glo 38⟩
theorem d__law_seen (Y : Hd K mg) : Df K mg "_law_seen" s__law_seen := by
  obtain ⟨fd, F⟩ := Y.def_ 25
  exact ⟨_, fd, F, Y.glo 39⟩
theorem d__law_changes (Y : Hd K mg) : Df K mg "_law_changes" s__law_changes := by
  obtain ⟨fd, F⟩ := Y.def_ 26
  exact ⟨_, fd, F, Y.glo 40⟩
theorem d__law_action (Y : Hd K mg) : Df K mg "_law_action" s__law_action := by
  obtain ⟨fd, F⟩ := Y.def_ 27
  exact ⟨_, fd, F, Y.glo 41⟩
theorem d__law_made (Y : Hd K mg) : Df K mg "_law_made" s__law_made := by
  obtain ⟨fd, F⟩ := Y.def_ 28
  exact ⟨_, fd, F, Y.glo 42⟩
theorem d__law_set (Y : Hd K mg) : Df K mg "_law_set" s__law_set := by
  obtain ⟨fd, F⟩ := Y.def_ 29
  exact ⟨_, fd, F, Y.glo 43⟩
theorem d__law_half (Y : Hd K mg) : Df K mg "_law_half" s__law_half := by
  obtain ⟨fd, F⟩ := Y.def_ 30
  exact ⟨_, fd, F, Y.glo 44⟩
theorem d__law_part (Y : Hd K mg) : Df K mg "_law_part" s__law_part := by
  obtain ⟨fd, F⟩ := Y.def_ 31
  exact ⟨_, fd, F, Y.glo 45⟩
theorem d_ws (Y : Hd K mg) : DfK K mg "won_states" s_won_states [("without", .ref (kwAt "won_states" "without" K))] := by
  obtain ⟨fd, F⟩ := Y.def_ 33
  exact ⟨_, fd, F, Y.glo 47⟩
theorem d_Condition_names (Y : Hd K mg) : Md K (cl K "Condition") "names" "Condition.names" s_Condition_names := by
  obtain ⟨fd, F⟩ := Y.def_ 34
  exact ⟨_, fd, F, He.meth_ok (Y.fact 77), fnIn_of F⟩
theorem d_Condition___call__ (Y : Hd K mg) : Md K (cl K "Condition") "__call__" "Condition.__call__" s_Condition___call__ := by
  obtain ⟨fd, F⟩ := Y.def_ 35
  exact ⟨_, fd, F, He.meth_ok (Y.fact 78), fnIn_of F⟩
theorem d_Condition___and__ (Y : Hd K mg) : Md K (cl K "Condition") "__and__" "Condition.__and__" s_Condition___and__ := by
  obtain ⟨fd, F⟩ := Y.def_ 36
  exact ⟨_, fd, F, He.meth_ok (Y.fact 79), fnIn_of F⟩
theorem d_Condition___or__ (Y : Hd K mg) : Md K (cl K "Condition") "__or__" "Condition.__or__" s_Condition___or__ := by
  obtain ⟨fd, F⟩ := Y.def_ 37
  exact ⟨_, fd, F, He.meth_ok (Y.fact 80), fnIn_of F⟩
theorem d_Condition___invert__ (Y : Hd K mg) : Md K (cl K "Condition") "__invert__" "Condition.__invert__" s_Condition___invert__ := by
  obtain ⟨fd, F⟩ := Y.def_ 38
  exact ⟨_, fd, F, He.meth_ok (Y.fact 81), fnIn_of F⟩
theorem d_Condition___eq__ (Y : Hd K mg) : Md K (cl K "Condition") "__eq__" "Condition.__eq__" s_Condition___eq__ := by
  obtain ⟨fd, F⟩ := Y.def_ 39
  exact ⟨_, fd, F, He.meth_ok (Y.fact 82), fnIn_of F⟩
theorem d_Outcome_names (Y : Hd K mg) : Md K (cl K "Outcome") "names" "Outcome.names" s_Outcome_names := by
  obtain ⟨fd, F⟩ := Y.def_ 40
  exact ⟨_, fd, F, He.meth_ok (Y.fact 83), fnIn_of F⟩
theorem d_Outcome_copy (Y : Hd K mg) : Md K (cl K "Outcome") "copy" "Outcome.copy" s_Outcome_copy := by
  obtain ⟨fd, F⟩ := Y.def_ 41
  exact ⟨_, fd, F, He.meth_ok (Y.fact 84), fnIn_of F⟩
theorem d_Outcome___getitem__ (Y : Hd K mg) : Md K (cl K "Outcome") "__getitem__" "Outcome.__getitem__" s_Outcome___getitem__ := by
  obtain ⟨fd, F⟩ := Y.def_ 42
  exact ⟨_, fd, F, He.meth_ok (Y.fact 85), fnIn_of F⟩
theorem d_Outcome___eq__ (Y : Hd K mg) : Md K (cl K "Outcome") "__eq__" "Outcome.__eq__" s_Outcome___eq__ := by
  obtain ⟨fd, F⟩ := Y.def_ 43
  exact ⟨_, fd, F, He.meth_ok (Y.fact 86), fnIn_of F⟩
theorem d_Action_outcome (Y : Hd K mg) : Md K (cl K "Action") "outcome" "Action.outcome" s_Action_outcome := by
  obtain ⟨fd, F⟩ := Y.def_ 44
  exact ⟨_, fd, F, He.meth_ok (Y.fact 87), fnIn_of F⟩
theorem d_Action___len__ (Y : Hd K mg) : Md K (cl K "Action") "__len__" "Action.__len__" s_Action___len__ := by
  obtain ⟨fd, F⟩ := Y.def_ 45
  exact ⟨_, fd, F, He.meth_ok (Y.fact 88), fnIn_of F⟩
theorem d_Action___eq__ (Y : Hd K mg) : Md K (cl K "Action") "__eq__" "Action.__eq__" s_Action___eq__ := by
  obtain ⟨fd, F⟩ := Y.def_ 46
  exact ⟨_, fd, F, He.meth_ok (Y.fact 89), fnIn_of F⟩
theorem d_World_seen (Y : Hd K mg) : Md K (cl K "World") "seen" "World.seen" s_World_seen := by
  obtain ⟨fd, F⟩ := Y.def_ 47
  exact ⟨_, fd, F, He.meth_ok (Y.fact 90), fnIn_of F⟩
theorem d_World_counters (Y : Hd K mg) : Md K (cl K "World") "counters" "World.counters" s_World_counters := by
  obtain ⟨fd, F⟩ := Y.def_ 48
  exact ⟨_, fd, F, He.meth_ok (Y.fact 91), fnIn_of F⟩
theorem d_World_check_change_of (Y : Hd K mg) : Md K (cl K "World") "check_change_of" "World.check_change_of" s_World_check_change_of := by
  obtain ⟨fd, F⟩ := Y.def_ 49
  exact ⟨_, fd, F, He.meth_ok (Y.fact 92), fnIn_of F⟩
theorem d_World_takes_reserve (Y : Hd K mg) : Md K (cl K "World") "takes_reserve" "World.takes_reserve" s_World_takes_reserve := by
  obtain ⟨fd, F⟩ := Y.def_ 50
  exact ⟨_, fd, F, He.meth_ok (Y.fact 93), fnIn_of F⟩
theorem d_World_check_action (Y : Hd K mg) : Md K (cl K "World") "check_action" "World.check_action" s_World_check_action := by
  obtain ⟨fd, F⟩ := Y.def_ 51
  exact ⟨_, fd, F, He.meth_ok (Y.fact 94), fnIn_of F⟩
theorem d_World_states (Y : Hd K mg) : Md K (cl K "World") "states" "World.states" s_World_states := by
  obtain ⟨fd, F⟩ := Y.def_ 52
  exact ⟨_, fd, F, He.meth_ok (Y.fact 95), fnIn_of F⟩
theorem d_World_state_of (Y : Hd K mg) : Md K (cl K "World") "state_of" "World.state_of" s_World_state_of := by
  obtain ⟨fd, F⟩ := Y.def_ 53
  exact ⟨_, fd, F, He.meth_ok (Y.fact 96), fnIn_of F⟩
theorem d_World_fits (Y : Hd K mg) : Md K (cl K "World") "fits" "World.fits" s_World_fits := by
  obtain ⟨fd, F⟩ := Y.def_ 54
  exact ⟨_, fd, F, He.meth_ok (Y.fact 97), fnIn_of F⟩
theorem d_World_possible (Y : Hd K mg) : Md K (cl K "World") "possible" "World.possible" s_World_possible := by
  obtain ⟨fd, F⟩ := Y.def_ 55
  exact ⟨_, fd, F, He.meth_ok (Y.fact 98), fnIn_of F⟩
theorem d_World_checked (Y : Hd K mg) : Md K (cl K "World") "checked" "World.checked" s_World_checked := by
  obtain ⟨fd, F⟩ := Y.def_ 56
  exact ⟨_, fd, F, He.meth_ok (Y.fact 99), fnIn_of F⟩
theorem d_World_behind (Y : Hd K mg) : Md K (cl K "World") "behind" "World.behind" s_World_behind := by
  obtain ⟨fd, F⟩ := Y.def_ 57
  exact ⟨_, fd, F, He.meth_ok (Y.fact 100), fnIn_of F⟩
theorem d_World_results (Y : Hd K mg) : Md K (cl K "World") "results" "World.results" s_World_results := by
  obtain ⟨fd, F⟩ := Y.def_ 58
  exact ⟨_, fd, F, He.meth_ok (Y.fact 101), fnIn_of F⟩
theorem d_World_shifts (Y : Hd K mg) : Md K (cl K "World") "shifts" "World.shifts" s_World_shifts := by
  obtain ⟨fd, F⟩ := Y.def_ 59
  exact ⟨_, fd, F, He.meth_ok (Y.fact 102), fnIn_of F⟩
theorem d_World_copy (Y : Hd K mg) : Md K (cl K "World") "copy" "World.copy" s_World_copy := by
  obtain ⟨fd, F⟩ := Y.def_ 60
  exact ⟨_, fd, F, He.meth_ok (Y.fact 103), fnIn_of F⟩
theorem d_World___setitem__ (Y : Hd K mg) : Md K (cl K "World") "__setitem__" "World.__setitem__" s_World___setitem__ := by
  obtain ⟨fd, F⟩ := Y.def_ 61
  exact ⟨_, fd, F, He.meth_ok (Y.fact 104), fnIn_of F⟩
theorem d_World___or__ (Y : Hd K mg) : Md K (cl K "World") "__or__" "World.__or__" s_World___or__ := by
  obtain ⟨fd, F⟩ := Y.def_ 62
  exact ⟨_, fd, F, He.meth_ok (Y.fact 105), fnIn_of F⟩
theorem d_World_same_lists (Y : Hd K mg) : Md K (cl K "World") "same_lists" "World.same_lists" s_World_same_lists := by
  obtain ⟨fd, F⟩ := Y.def_ 63
  exact ⟨_, fd, F, He.meth_ok (Y.fact 106), fnIn_of F⟩
theorem d_World___eq__ (Y : Hd K mg) : Md K (cl K "World") "__eq__" "World.__eq__" s_World___eq__ := by
  obtain ⟨fd, F⟩ := Y.def_ 64
  exact ⟨_, fd, F, He.meth_ok (Y.fact 107), fnIn_of F⟩
theorem d_Task_base (Y : Hd K mg) : Md K (cl K "Task") "base" "Task.base" s_Task_base := by
  obtain ⟨fd, F⟩ := Y.def_ 65
  exact ⟨_, fd, F, He.meth_ok (Y.fact 108), fnIn_of F⟩
theorem d_Task_goals (Y : Hd K mg) : Md K (cl K "Task") "goals" "Task.goals" s_Task_goals := by
  obtain ⟨fd, F⟩ := Y.def_ 66
  exact ⟨_, fd, F, He.meth_ok (Y.fact 109), fnIn_of F⟩
theorem d_Game_added_edges (Y : Hd K mg) : Md K (cl K "Game") "added_edges" "Game.added_edges" s_Game_added_edges := by
  obtain ⟨fd, F⟩ := Y.def_ 67
  exact ⟨_, fd, F, He.meth_ok (Y.fact 110), fnIn_of F⟩
theorem d_Condition_init (Y : Hd K mg) : Mi K mg "Condition" (cl K "Condition") "Condition.__init__" s_Condition___init__ [] := by
  obtain ⟨fd, F⟩ := Y.def_ 68
  exact ⟨_, fd, F, He.mkr_ok (Y.fact 111), Y.glo 49⟩
theorem d_Outcome_init (Y : Hd K mg) : Mi K mg "Outcome" (cl K "Outcome") "Outcome.__init__" s_Outcome___init__ [.non] := by
  obtain ⟨fd, F⟩ := Y.def_ 69
  exact ⟨_, fd, F, He.mkr_ok (Y.fact 112), Y.glo 50⟩
theorem d_Action_init (Y : Hd K mg) : Mi K mg "Action" (cl K "Action") "Action.__init__" s_Action___init__ [] := by
  obtain ⟨fd, F⟩ := Y.def_ 70
  exact ⟨_, fd, F, He.mkr_ok (Y.fact 113), Y.glo 51⟩
theorem d_Task_init (Y : Hd K mg) : Mi K mg "Task" (cl K "Task") "Task.__init__" s_Task___init__ [] := by
  obtain ⟨fd, F⟩ := Y.def_ 71
  exact ⟨_, fd, F, He.mkr_ok (Y.fact 114), Y.glo 53⟩
theorem d_Game_init (Y : Hd K mg) : Mi K mg "Game" (cl K "Game") "Game.__init__" s_Game___init__ [] := by
  obtain ⟨fd, F⟩ := Y.def_ 72
  exact ⟨_, fd, F, He.mkr_ok (Y.fact 115), Y.glo 54⟩
theorem d_World_init (Y : Hd K mg) : MiW K mg := by
  obtain ⟨fd, F⟩ := Y.def_ 73
  exact ⟨_, _, _, ⟨_, fd, F, He.mkr_ok (Y.fact 116), Y.glo 52⟩⟩
theorem d_Condition_of (Y : Hd K mg) : Ms K (cl K "Condition") "of" "Condition.of" s_Condition_of := by
  obtain ⟨fd, F⟩ := Y.def_ 74
  exact ⟨_, _, fd, F, sta_ok Y.exs.2.2.2.2.2.2.2.1⟩
theorem d_Condition_always (Y : Hd K mg) : Ms K (cl K "Condition") "always" "Condition.always" s_Condition_always := by
  obtain ⟨fd, F⟩ := Y.def_ 75
  exact ⟨_, _, fd, F, sta_ok Y.exs.2.2.2.2.2.2.2.2.1⟩
theorem d_Condition_never (Y : Hd K mg) : Ms K (cl K "Condition") "never" "Condition.never" s_Condition_never := by
  obtain ⟨fd, F⟩ := Y.def_ 76
  exact ⟨_, _, fd, F, sta_ok Y.exs.2.2.2.2.2.2.2.2.2.1⟩
theorem tx (Y : Hd K mg) : Tx K mg where
  f_len := Y.free 0
  f_all := Y.free 1
  f_any := Y.free 2
  f_sorted := Y.free 3
  f_set := Y.free 4
  f_str := Y.free 5
  f_list := Y.free 6
  f_tuple := Y.free 7
  f_dict := Y.free 8
  f_range := Y.free 9
  f_enumerate := Y.free 10
  f_int := Y.free 11
  f_repr := Y.free 12
  f_isinstance := Y.free 13
  g_Condition := Y.glo 49
  g_Outcome := Y.glo 50
  g_Action := Y.glo 51
  g_World := Y.glo 52
  g_Task := Y.glo 53
  g_Game := Y.glo 54
  g_RESERVED := Y.glo 48
  g_LETTERS := Y.str 55
  reserved := fun H => He.tupB_ok Y.exs.2.2.2.2.2.2.2.2.2.2.1 H
  cCond := He.cls_ok (Y.fact 56)
  cOut := He.cls_ok (Y.fact 57)
  cAct := He.cls_ok (Y.fact 58)
  cWd := He.cls_ok (Y.fact 59)
  cTask := He.cls_ok (Y.fact 60)
  cGame := He.cls_ok (Y.fact 61)
  n_tree := He.noat_ok (Y.fact 62)
  n_otable := He.noat_ok (Y.fact 63)
  n_need := He.noat_ok (Y.fact 64)
  n_parts := He.noat_ok (Y.fact 65)
  n_facts := He.noat_ok (Y.fact 66)
  n_piles := He.noat_ok (Y.fact 67)
  n_reserves := He.noat_ok (Y.fact 68)
  n_table := He.noat_ok (Y.fact 69)
  n_inner := He.noat_ok (Y.fact 70)
  n_begin := He.noat_ok (Y.fact 71)
  n_aimed := He.noat_ok (Y.fact 72)
  n_order := He.noat_ok (Y.fact 73)
  n_tallies := He.noat_ok (Y.fact 74)
  n_edges := He.noat_ok (Y.fact 75)
  n_choices := He.noat_ok (Y.fact 76)
  i_Condition := ins_ok (He.cls_ok (Y.fact 56)) Y.exs.2.2.2.1
  i_Outcome := ins_ok (He.cls_ok (Y.fact 57)) Y.exs.2.2.2.2.1
  i_Action := ins_ok (He.cls_ok (Y.fact 58)) Y.exs.2.2.2.2.2.1
  i_World := ins_ok (He.cls_ok (Y.fact 59)) Y.exs.2.2.2.2.2.2.1
  q_Wd := Y.exs.1
  s_Cond := Y.exs.2.1
  s_Wd := Y.exs.2.2.1
theorem law_promise {P : Program} {w : World} {base : Heap} (Y : Hd K mg) {f : Addr} {fd : FuncData} (F : FunD K "law" "law" (defArgs s_law) (defBody s_law) (defScope s_law) [] [] f fd) : FnG P w K mg base 23 f fd ["_law_script"] (lawSp K) := by
  have T := tx Y
  have hE := emp_ok Y.exs.2.2.2.2.2.2.2.2.2.2.2
  have p_is_name : Cal P w K mg base 1 "is_name" S_is_name.sp [] := ok_is_name T (d_is_name Y)
  have p_tree_holds : Cal P w K mg base 6 "tree_holds" (S_holds 5).sp [] := ok_tree_holds T (d_tree_holds Y) 5
  have p_names_in : Cal P w K mg base 6 "names_in" (S_names_in 5).sp [] := ok_names_in T (d_names_in Y) 5
  have p_ascending : Cal P w K mg base 1 "ascending" S_ascending.sp [] := ok_ascending T (d_ascending Y)
  have p_sublists : Cal P w K mg base 1 "sublists" S_sublists.sp [] := ok_sublists T (d_sublists Y)
  have p_implies : Cal P w K mg base 7 "implies" S_implies.sp [] := ok_implies T (d_implies Y) p_sublists p_ascending p_names_in p_tree_holds
  have p_Cinit : Mak P w K mg base 1 "Condition" (cl K "Condition") (S_Cinit K).sp [] := ok_Cinit T (d_Condition_init Y)
  have p_Cof : Smt P w K mg base 3 (cl K "Condition") "of" (S_Cof K).sp := ok_Cof T (d_Condition_of Y) p_is_name p_Cinit
  have p_Calways : Smt P w K mg base 3 (cl K "Condition") "always" (S_Calways K).sp := ok_Calways T (d_Condition_always Y) p_Cinit
  have p_Cnever : Smt P w K mg base 3 (cl K "Condition") "never" (S_Cnever K).sp := ok_Cnever T (d_Condition_never Y) p_Cinit
  have p_Cnames : Met P w K mg base 7 (cl K "Condition") "names" (S_Cnames K).sp [] := ok_Cnames T (d_Condition_names Y) p_ascending p_names_in
  have p_Ccall : Dun P w K mg base 7 (cl K "Condition") "__call__" (S_Ccall K).sp := ok_Ccall T (d_Condition___call__ Y) p_tree_holds
  have p_Cand : Dun P w K mg base 3 (cl K "Condition") "__and__" (S_Cand K).sp := ok_Cand T (d_Condition___and__ Y) p_Cinit
  have p_Cor : Dun P w K mg base 3 (cl K "Condition") "__or__" (S_Cor K).sp := ok_Cor T (d_Condition___or__ Y) p_Cinit
  have p_Cinv : Dun P w K mg base 3 (cl K "Condition") "__invert__" (S_Cinv K).sp := ok_Cinv T (d_Condition___invert__ Y) p_Cinit
  have p_Ceq : Dun P w K mg base 8 (cl K "Condition") "__eq__" (S_Ceq K).sp := ok_Ceq T (d_Condition___eq__ Y) p_implies
  have p_check_change : Cal P w K mg base 2 "check_change" S_check_change.sp [] := ok_check_change T (d_check_change Y) p_is_name
  have p_Oinit : Mak P w K mg base 3 "Outcome" (cl K "Outcome") (S_Oinit K).sp [] := ok_Oinit T (d_Outcome_init Y) p_check_change
  have p_Onames : Met P w K mg base 2 (cl K "Outcome") "names" (S_Onames K).sp [] := ok_Onames T (d_Outcome_names Y) p_ascending
  have p_Ocopy : Met P w K mg base 5 (cl K "Outcome") "copy" (S_Ocopy K).sp [] := ok_Ocopy T (d_Outcome_copy Y) p_Oinit
  have p_Oget : Dun P w K mg base 1 (cl K "Outcome") "__getitem__" (S_Oget K).sp := ok_Oget T (d_Outcome___getitem__ Y)
  have p_Oeq : Dun P w K mg base 1 (cl K "Outcome") "__eq__" (S_Oeq K).sp := ok_Oeq T (d_Outcome___eq__ Y)
  have p_Ainit : Mak P w K mg base 6 "Action" (cl K "Action") (S_Ainit K).sp [] := ok_Ainit T (d_Action_init Y) p_Ocopy
  have p_Aout : Met P w K mg base 6 (cl K "Action") "outcome" (S_Aout K).sp [] := ok_Aout T (d_Action_outcome Y) p_Ocopy
  have p_Alen : Dun P w K mg base 1 (cl K "Action") "__len__" (S_Alen K).sp := ok_Alen T (d_Action___len__ Y)
  have p_check_lists : Cal P w K mg base 2 "check_lists" S_check_lists.sp [] := ok_check_lists T (d_check_lists Y) p_is_name
  have p_copied : Cal P w K mg base 8 "copied_action" (S_copied K).sp [] := ok_copied T (d_copied_action Y) p_Ainit p_Aout p_Alen
  have p_sub : Cal P w K mg base 6 "sub_tuples" (S_sub 5).sp [] := ok_sub T (d_sub_tuples Y) 5 (Nat.le_refl 5)
  have p_seen : Met P w K mg base 1 (cl K "World") "seen" (S_seen K).sp [] := ok_seen T (d_World_seen Y)
  have p_counters : Met P w K mg base 1 (cl K "World") "counters" (S_counters K).sp [] := ok_counters T (d_World_counters Y)
  have p_chof : Met P w K mg base 1 (cl K "World") "check_change_of" (S_chof K).sp [] := ok_chof T (d_World_check_change_of Y)
  have p_tkr : Met P w K mg base 4 (cl K "World") "takes_reserve" (S_tkr K).sp [] := ok_tkr T (d_World_takes_reserve Y) p_Oget
  have p_chact : Met P w K mg base 9 (cl K "World") "check_action" (S_chact K).sp [] := ok_chact T (d_World_check_action Y) p_is_name p_Cnames p_Alen p_Aout p_Onames p_chof p_Oget p_tkr
  have p_states : Met P w K mg base 2 (cl K "World") "states" (S_states K).sp [] := ok_states T (d_World_states Y) p_seen
  have p_state_of : Met P w K mg base 2 (cl K "World") "state_of" (S_state_of K).sp [] := ok_state_of T (d_World_state_of Y) p_seen
  have p_fits : Met P w K mg base 9 (cl K "World") "fits" (S_fits K).sp [] := ok_fits T (d_World_fits Y) p_Ccall p_Alen p_Aout p_Oget
  have p_possible : Met P w K mg base 10 (cl K "World") "possible" (S_possible K).sp [] := ok_possible T (d_World_possible Y) p_state_of p_fits
  have p_checked : Met P w K mg base 10 (cl K "World") "checked" (S_checked K).sp [] := ok_checked T (d_World_checked Y) p_state_of p_fits
  have p_behind : Met P w K mg base 4 (cl K "World") "behind" (S_behind K).sp [] := ok_behind T (d_World_behind Y) p_seen p_Oget
  have p_results : Met P w K mg base 11 (cl K "World") "results" (S_results K).sp [] := ok_results T (d_World_results Y) p_checked p_Alen p_Aout p_Oget p_sub p_behind
  have p_shifts : Met P w K mg base 11 (cl K "World") "shifts" (S_shifts K).sp [] := ok_shifts T (d_World_shifts Y) p_checked p_Alen p_Aout p_Oget p_counters
  have p_W4 : Mak P w K mg base 4 "World" (cl K "World") (S_Winit K).sp [] := ok_W4 T (d_World_init Y) p_check_lists
  have p_W3 : Mak P w K mg base 4 "World" (cl K "World") (S_Winit K).sp [.non] := ok_W3 T (d_World_init Y) p_check_lists
  have p_same_world : Cal P w K mg base 6 "same_world" (S_same_world K).sp [] := ok_same_world T (d_same_world Y) p_W4
  have p_Wcopy : Met P w K mg base 7 (cl K "World") "copy" (S_same_world K).sp [] := ok_Wcopy T (d_World_copy Y) p_same_world
  have p_Wset : Dun P w K mg base 10 (cl K "World") "__setitem__" (S_Wset K).sp := ok_Wset T (d_World___setitem__ Y) p_chact p_copied
  have p_Wor : Dun P w K mg base 6 (cl K "World") "__or__" (S_Wor K).sp := ok_Wor T (d_World___or__ Y) p_W4
  have p_checkc : Cal P w K mg base 8 "check_condition" (S_checkc K).sp [] := ok_checkc T (d_check_condition Y) p_Cnames p_seen
  have p_Tinit : Mak P w K mg base 9 "Task" (cl K "Task") (S_Tinit K).sp [] := ok_Tinit T (d_Task_init Y) p_Wcopy p_checkc
  have p_base : Met P w K mg base 8 (cl K "Task") "base" (S_base K).sp [] := ok_base T (d_Task_base Y) p_Wcopy
  have p_goals : Met P w K mg base 8 (cl K "Task") "goals" (S_goals K).sp [] := ok_goals T (d_Task_goals Y) p_states p_Ccall
  have p_AE : Met P w K mg base 12 (cl K "Game") "added_edges" (S_AE K).sp [] := ok_AE T (d_Game_added_edges Y) p_results p_shifts
  have p_Ginit : Mak P w K mg base 13 "Game" (cl K "Game") (S_Ginit K (kwAt "won_states" "without" K)).sp [] := ok_Ginit T hE (d_Game_init Y) p_base p_goals p_states p_counters p_possible p_AE
  have p_forced : Cal P w K mg base 1 "forced_action" (S_forced K).sp [] := ok_forced T (d_forced_action Y)
  have p_close : Cal P w K mg base 2 "close_table" (S_close K).sp [] := ok_close T (d_close_table Y) p_forced
  have p_wonfall : Cal P w K mg base 20 "won_by" (S_won K 8).sp [] := ok_wonfall T (d_won_by Y) (d_falling_of Y) p_close 8
  have p_solve : Cal P w K mg base 21 "solve_game" (S_solve K).sp [] := ok_solve T (d_solve_game Y) p_wonfall
  have p_ws : Cal P w K mg base 22 "won_states" (S_ws K (kwAt "won_states" "without" K)).sp [.ref (kwAt "won_states" "without" K)] := ok_ws T (d_ws Y) p_Ginit p_solve p_base p_goals p_states
  have p_Aeq : Dun P w K mg base 9 (cl K "Action") "__eq__" (S_Aeq K).sp := ok_Aeq T (d_Action___eq__ Y) p_Ceq p_Oeq
  have p_sl : Met P w K mg base 3 (cl K "World") "same_lists" (S_sl K).sp [] := ok_sl T (d_World_same_lists Y)
  have p_Weq : Dun P w K mg base 11 (cl K "World") "__eq__" (S_Weq K).sp := ok_Weq T (d_World___eq__ Y) p_sl p_Aeq
  have p_draw : Cal P w K mg base 1 "_law_draw" S_draw.sp [] := ok_draw T (d__law_draw Y)
  have p_pick : Cal P w K mg base 2 "_law_pick" S_pick.sp [] := ok_pick T (d__law_pick Y) p_draw
  have p_mixed : Cal P w K mg base 2 "_law_mixed" S_mixed.sp [] := ok_mixed T (d__law_mixed Y) p_draw
  have p_name : Cal P w K mg base 2 "_law_name" S_name.sp [] := ok_name T (d__law_name Y) p_draw
  have p_names : Cal P w K mg base 3 "_law_names" S_names.sp [] := ok_names T (d__law_names Y) p_name
  have p_cond : Cal P w K mg base 4 "_law_condition" (S_cond 1).sp [] := ok_cond T (d__law_condition Y) p_draw p_pick 1
  have p_built : Cal P w K mg base 7 "_law_built" (S_built K 3).sp [] := ok_built T (d__law_built Y) p_Cof p_Calways p_Cnever p_Cinv p_Cand p_Cor 3
  have p_lseen : Cal P w K mg base 1 "_law_seen" S_lseen.sp [] := ok_lseen T (d__law_seen Y)
  have p_chg : Cal P w K mg base 3 "_law_changes" S_chg.sp [] := ok_chg T (d__law_changes Y) p_draw p_mixed
  have p_row : Cal P w K mg base 5 "_law_action" S_row.sp [] := ok_row T (d__law_action Y) p_draw p_cond p_lseen p_chg
  have p_half : Cal P w K mg base 6 "_law_half" S_half.sp [] := ok_half T (d__law_half Y) p_cond p_lseen p_row
  have p_part : Cal P w K mg base 2 "_law_part" S_part.sp [] := ok_part T (d__law_part Y) p_lseen
  have p_made : Cal P w K mg base 12 "_law_made" (S_made K).sp [] := ok_made T (d__law_made Y) p_W3 p_built p_Ainit p_Oinit p_Wset
  have p_set : Cal P w K mg base 13 "_law_set" (S_set K).sp [] := ok_set T (d__law_set Y) p_Tinit p_made p_built
  have p_same : CalG P w K mg base 1 "_law_same" S_same.sp := ok_same T (d__law_same Y)
  exact ok_law T p_names p_draw p_half p_made p_set p_ws p_Wor p_built p_Cnever p_Calways p_Cand p_Cor p_Tinit p_states p_part p_same p_Weq F
end
end K85
open PySem PySem.W PySem.Calls PyProof.Rows
set_option maxRecDepth 100000 in
set_option maxHeartbeats 0 in
theorem PySem.Challenge.cw_noneorsome_k85_whole_both_and_either_holds : PySem.Challenge.rw_noneorsome_k85_whole_both_and_either.Holds := by
  w_on; o_law
  refine HandSHeadRun.head_any (r := OpenLaw.row PySem.Challenge.rw_noneorsome_k85_whole_both_and_either) (q := K85.qv) (H := K85.hookM) (ob := K85.hob) (M := 20000) (loose := K85.hnames) (d := HandSHeadRun.topDef (OpenLaw.row PySem.Challenge.rw_noneorsome_k85_whole_both_and_either).prog 64) (kwd := []) K85.hob_eq
    (by kernel_rfl) (fun s => by kernel_rfl) K85.hrun (by kernel_rfl) (by kernel_rfl) (by kernel_rfl) (by rfl) (by first | assumption | decide +kernel) (by decide +kernel) ⟨rfl, rfl, rfl, rfl, rfl, by decide +kernel⟩ ?hw ?hc
  case hw => w_witness2
  case hc =>
    refine K85.walk_ofG (l := PySem.Challenge.rw_noneorsome_k85_whole_both_and_either) (n := 63) (k := 23) (x := "_law_script") rfl (by decide) (by kernel_rfl) ⟨rfl, by decide, by decide⟩ ?F
    intro w mg fa h Y G hmg0
    obtain ⟨K, KX, c⟩ := Y
    have hmg : mg ("law" : PySem.Str) = some (.ref fa) := by
      have e : (HandSHeadRun.topDef (OpenLaw.row PySem.Challenge.rw_noneorsome_k85_whole_both_and_either).prog 64).name = ("law" : PySem.Str) := by kernel_rfl
      rw [← e]
      exact hmg0
    have Y : K85.Hd K mg := ⟨h, KX, G, c⟩
    obtain ⟨fd, F⟩ := Y.def_ 32
    have e := hmg.symm.trans (Y.glo 46)
    cases e
    have b := L2.FunD.bindsA (ps := ["_law_script"]) F fun _ _ _ _ _ _ us hl => match us, hl with | [_], _ => rfl
    exact ⟨K, fd, K85.lawSp K, KX, fun s v => b s [v] rfl, fun H a ns hl _ hS => ⟨a, ns, rfl, hS, fun _ => rfl⟩, fun base _ _ => K85.law_promise Y F⟩
